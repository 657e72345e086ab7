import PyProof.Rows.All
import Wide.All
import OpenK.AllK
import Wide.FinOn
import HandS.ForExc
import HandS.ForMost
import HandS.Wide
import HandS.ExcOwn
import HandS.TupAny
import HandS.TupMul
import KE.DataCmp
import KE.SortData
import HandS.TupLen
import HandS.IsInst
import HandS.EndBits
import HandS.Zip
import HandS.ExcIs
import KE.DataMinMax
import KE.DataFind
import HandS.Conv
import HandS.Deep
import HandS.Style
import HandS.Text
import HandS.SetFor
import KE.GoesEnum
import HandS.Iter
import HandS.RevTup
import HandS.Rev
import HandS.DictComp
import HandS.Set
import HandS.TupSets
import HandS.SetKeys
import HandS.SortKw
import HandS.DictSubView
import KE.KDictWalk
import KE.KEqDict
import PyProof.DictUpdate
import PyProof.FactsAll.dict_4
import HandS.HeadHook3
import PySem.Challenge.RW_blurdesk_k21_widths_depths_names
set_option Elab.async false
set_option linter.all false
set_option maxRecDepth 100000
set_option maxHeartbeats 4000000
/-! Plain data over the hand layer: values without addresses; lists and dicts by value, changed in place only through the one name that holds them. -/
namespace DL
open PySem PySem.Spec PyProof.Rows L2

/-- a value, whole -/
inductive D where
  | non
  | bl (b : Bool)
  | int (i : Int)
  | str (x : Str)
  | obj (v : V)
  | tup (xs : List D)
  | con (xs : List D)
  | lst (xs : List D)
  | dct (t : Bool) (kvs : List (D × D))

/-- what comes of a reckoning -/
inductive Res (α : Type) where
  | ok (a : α)
  | exc (c : String) (fs : List D)
  | bad

def Res.bind {α β : Type} (r : Res α) (f : α → Res β) : Res β := match r with
  | .ok a => f a
  | .exc c fs => .exc c fs
  | .bad => .bad
@[simp] theorem Res.bind_ok {α β : Type} (a : α) (f : α → Res β) : (Res.ok a).bind f = f a := Eq.trans rfl rfl
@[simp] theorem Res.bind_exc {α β : Type} (c : String) (fs : List D) (f : α → Res β) : (Res.exc c fs : Res α).bind f = .exc c fs := Eq.trans rfl rfl
@[simp] theorem Res.bind_bad {α β : Type} (f : α → Res β) : (Res.bad : Res α).bind f = .bad := Eq.trans rfl rfl

/-- keys of dicts -/
def keyD : Key → D
  | .inl i => .int i
  | .inr x => .str x
def keyT (k : List Key) : D := .tup (k.map keyD)

mutual
/-- the value v is the data d, over the heap's part G -/
def Rep (K : PySem.W.Frag) (G : Hp) : D → V → Prop
  | .non, v => v = .non
  | .bl b, v => v = .bl b
  | .int i, v => v = .int i
  | .str x, v => v = .str x
  | .obj u, v => v = u
  | .tup ds, v => ∃ a vs, v = .ref a ∧ G a = some (.tup vs) ∧ RepL K G ds vs
  | .con ds, v => ∃ a vs, v = .ref a ∧ SqT K G a vs ∧ RepL K G ds vs
  | .lst ds, v => ∃ a vs, v = .ref a ∧ SqL K G a vs ∧ RepL K G ds vs
  | .dct t kvs, v => ∃ a, v = .ref a ∧ ((t = false ∧ ∃ od ps, G a = some (.frz od (.dK ps)) ∧ kvs.map (·.1) = ps.map (fun p => keyD p.1) ∧ RepV K G kvs (ps.map (·.2))) ∨
      (t = true ∧ ∃ od ps, G a = some (.frz od (.dT ps)) ∧ kvs.map (·.1) = ps.map (fun p => keyT p.1) ∧ RepV K G kvs (ps.map (·.2))))
def RepL (K : PySem.W.Frag) (G : Hp) : List D → List V → Prop
  | [], vs => vs = []
  | d :: ds, vs => ∃ v r, vs = v :: r ∧ Rep K G d v ∧ RepL K G ds r
def RepV (K : PySem.W.Frag) (G : Hp) : List (D × D) → List V → Prop
  | [], vs => vs = []
  | (_, d) :: r, vs => ∃ v r', vs = v :: r' ∧ Rep K G d v ∧ RepV K G r r'
end

/-- the part G lies in H -/
def Sub (G H : Hp) : Prop := ∀ b o, G b = some o → H b = some o
theorem Sub.refl (H : Hp) : Sub H H := fun _ _ e => e
theorem Sub.trans {A B C : Hp} (h : Sub A B) (k : Sub B C) : Sub A C := fun b o e => k b o (h b o e)
theorem Sub.rd {G H : Hp} (h : Sub G H) {a : Addr} {u : HO} (r : Rd G a u) : Rd H a u := by
  rcases r with r | ⟨o, r⟩
  · exact .inl (h _ _ r)
  · exact .inr ⟨o, h _ _ r⟩
theorem Sub.sql {K : PySem.W.Frag} {G H : Hp} (h : Sub G H) {a : Addr} {xs : List V} (r : SqL K G a xs) : SqL K H a xs := by
  rcases r with r | r
  · exact .inl (h.rd r)
  · exact .inr r
theorem Sub.sqt {K : PySem.W.Frag} {G H : Hp} (h : Sub G H) {a : Addr} {xs : List V} (r : SqT K G a xs) : SqT K H a xs := by
  rcases r with r | r
  · exact .inl (h.rd r)
  · exact .inr r
theorem Sub.pt {K : PySem.W.Frag} {G H : Hp} (h : Sub G H) {a : Addr} {xs : List V} (r : G a = some (.tup xs)) : SqT K H a xs := SqT.of (h a _ r)
theorem Sub.upd {H : Hp} {a : Addr} {o : HO} (h : H a = none) : Sub H (upd H a o) := fun b u e => by
  rw [upd_ne (ne_of_none e h)]; exact e
theorem Sub.free {G H : Hp} (h : Sub G H) {a : Addr} (e : H a = none) : G a = none := by
  cases q : G a with
  | none => rfl
  | some o => rw [h _ _ q] at e; cases e

mutual
theorem Rep.mono {K : PySem.W.Frag} {G H : Hp} (h : Sub G H) : ∀ {d : D} {v : V}, Rep K G d v → Rep K H d v
  | .non, _, e => e
  | .bl _, _, e => e
  | .int _, _, e => e
  | .str _, _, e => e
  | .obj _, _, e => e
  | .tup _, _, ⟨a, vs, e, s, r⟩ => ⟨a, vs, e, h a _ s, RepL.mono h r⟩
  | .con _, _, ⟨a, vs, e, s, r⟩ => ⟨a, vs, e, h.sqt s, RepL.mono h r⟩
  | .lst _, _, ⟨a, vs, e, s, r⟩ => ⟨a, vs, e, h.sql s, RepL.mono h r⟩
  | .dct _ _, _, ⟨a, e, .inl ⟨t0, od, ps, s, k, r⟩⟩ => ⟨a, e, .inl ⟨t0, od, ps, h a _ s, k, RepV.mono h r⟩⟩
  | .dct _ _, _, ⟨a, e, .inr ⟨t0, od, ps, s, k, r⟩⟩ => ⟨a, e, .inr ⟨t0, od, ps, h a _ s, k, RepV.mono h r⟩⟩
theorem RepL.mono {K : PySem.W.Frag} {G H : Hp} (h : Sub G H) : ∀ {ds : List D} {vs : List V}, RepL K G ds vs → RepL K H ds vs
  | [], _, e => e
  | _ :: _, _, ⟨v, r, e, x, y⟩ => ⟨v, r, e, Rep.mono h x, RepL.mono h y⟩
theorem RepV.mono {K : PySem.W.Frag} {G H : Hp} (h : Sub G H) : ∀ {ds : List (D × D)} {vs : List V}, RepV K G ds vs → RepV K H ds vs
  | [], _, e => e
  | (_, _) :: _, _, ⟨v, r, e, x, y⟩ => ⟨v, r, e, Rep.mono h x, RepV.mono h y⟩
end

section
variable {K : PySem.W.Frag} {G : Hp}
theorem RepL.nil : RepL K G [] [] := rfl
theorem RepL.cons {d : D} {v : V} {ds : List D} {vs : List V} (h : Rep K G d v) (t : RepL K G ds vs) : RepL K G (d :: ds) (v :: vs) := ⟨v, vs, rfl, h, t⟩
theorem RepL.length : ∀ {ds : List D} {vs : List V}, RepL K G ds vs → vs.length = ds.length
  | [], _, e => by rw [show _ = [] from e]; rfl
  | _ :: _, _, ⟨v, r, e, x, y⟩ => by rw [e, List.length_cons, List.length_cons, RepL.length y]
theorem RepL.get : ∀ {ds : List D} {vs : List V} {i : Nat} {d : D}, RepL K G ds vs → ds[i]? = some d → ∃ v, vs[i]? = some v ∧ Rep K G d v
  | _ :: _, _, 0, _, ⟨v, r, e, x, y⟩, h => by cases h; exact ⟨v, by rw [e]; rfl, x⟩
  | _ :: _, _, i + 1, d, ⟨v, r, e, x, y⟩, h => by
    obtain ⟨w, h1, h2⟩ := RepL.get (i := i) (d := d) y (by simpa using h)
    exact ⟨w, by rw [e]; simpa using h1, h2⟩
theorem RepL.get' : ∀ {ds : List D} {vs : List V} {i : Nat} {v : V}, RepL K G ds vs → vs[i]? = some v → ∃ d, ds[i]? = some d ∧ Rep K G d v
  | [], _, i, v, e, h => by rw [show _ = [] from e] at h; simp at h
  | d :: _, _, 0, v, ⟨w, r, e, x, y⟩, h => by rw [e] at h; cases h; exact ⟨d, rfl, x⟩
  | _ :: _, _, i + 1, v, ⟨w, r, e, x, y⟩, h => by
    rw [e] at h
    obtain ⟨d, h1, h2⟩ := RepL.get' (i := i) (v := v) y (by simpa using h)
    exact ⟨d, by simpa using h1, h2⟩
theorem RepL.append : ∀ {ds es : List D} {vs ws : List V}, RepL K G ds vs → RepL K G es ws → RepL K G (ds ++ es) (vs ++ ws)
  | [], _, _, _, e, t => by rw [show _ = [] from e]; exact t
  | _ :: _, _, _, _, ⟨v, r, e, x, y⟩, t => by rw [e]; exact ⟨v, _, rfl, x, RepL.append y t⟩
theorem RepL.drop : ∀ {ds : List D} {vs : List V} (n : Nat), RepL K G ds vs → RepL K G (ds.drop n) (vs.drop n)
  | _, _, 0, h => h
  | [], _, n + 1, e => by rw [show _ = [] from e]; rfl
  | _ :: _, _, n + 1, ⟨v, r, e, x, y⟩ => by rw [e]; exact RepL.drop n y
theorem RepL.take : ∀ {ds : List D} {vs : List V} (n : Nat), RepL K G ds vs → RepL K G (ds.take n) (vs.take n)
  | _, _, 0, h => rfl
  | [], _, n + 1, e => by rw [show _ = [] from e]; rfl
  | _ :: _, _, n + 1, ⟨v, r, e, x, y⟩ => by rw [e]; exact ⟨v, _, rfl, x, RepL.take n y⟩
theorem RepL.set {d : D} {v : V} (h : Rep K G d v) : ∀ {ds : List D} {vs : List V} (n : Nat), RepL K G ds vs → RepL K G (ds.set n d) (vs.set n v)
  | [], _, n, e => by rw [show _ = [] from e]; rfl
  | _ :: _, _, 0, ⟨w, r, e, x, y⟩ => by rw [e]; exact ⟨v, r, rfl, h, y⟩
  | _ :: _, _, n + 1, ⟨w, r, e, x, y⟩ => by rw [e]; exact ⟨w, _, rfl, x, RepL.set h n y⟩
theorem RepL.ints : ∀ {ns : List Int} {vs : List V}, RepL K G (ns.map D.int) vs → vs = ns.map V.int
  | [], _, e => e
  | _ :: _, _, ⟨v, r, e, x, y⟩ => by rw [e, show v = _ from x, RepL.ints y]; rfl
theorem RepL.of_ints : ∀ (ns : List Int), RepL K G (ns.map D.int) (ns.map V.int)
  | [] => rfl
  | n :: ns => ⟨_, _, rfl, rfl, RepL.of_ints ns⟩
theorem RepL.bls : ∀ {ns : List Bool} {vs : List V}, RepL K G (ns.map D.bl) vs → vs = ns.map V.bl
  | [], _, e => e
  | _ :: _, _, ⟨v, r, e, x, y⟩ => by rw [e, show v = _ from x, RepL.bls y]; rfl
theorem Rep.tup {a : Addr} {ds : List D} {vs : List V} (h : G a = some (.tup vs)) (r : RepL K G ds vs) : Rep K G (.tup ds) (.ref a) := ⟨a, vs, rfl, h, r⟩
theorem Rep.lst {a : Addr} {ds : List D} {vs : List V} (h : SqL K G a vs) (r : RepL K G ds vs) : Rep K G (.lst ds) (.ref a) := ⟨a, vs, rfl, h, r⟩
end

def D.isDct : D → Bool
  | .dct _ _ => true
  | _ => false
/-- a value whose outer list or dict is read in H, its items in G -/
def RepC (K : PySem.W.Frag) (H G : Hp) : D → V → Prop
  | .lst ds, v => ∃ a vs, v = .ref a ∧ SqL K H a vs ∧ RepL K G ds vs
  | .dct t kvs, v => ∃ a, v = .ref a ∧ ((t = false ∧ ∃ ps, Rd H a (.dK ps) ∧ kvs.map (·.1) = ps.map (fun p => keyD p.1) ∧ RepV K G kvs (ps.map (·.2))) ∨
      (t = true ∧ ∃ ps, Rd H a (.dT ps) ∧ kvs.map (·.1) = ps.map (fun p => keyT p.1) ∧ RepV K G kvs (ps.map (·.2))))
  | d, v => Rep K G d v
theorem Rep.c {K : PySem.W.Frag} {G H : Hp} (h : Sub G H) : ∀ {d : D} {v : V}, Rep K G d v → RepC K H G d v
  | .non, _, e => e
  | .bl _, _, e => e
  | .int _, _, e => e
  | .str _, _, e => e
  | .obj _, _, e => e
  | .tup _, _, e => e
  | .con _, _, e => e
  | .lst _, _, ⟨a, vs, e, s, r⟩ => ⟨a, vs, e, h.sql s, r⟩
  | .dct _ _, _, ⟨a, e, .inl ⟨t0, od, ps, s, k, r⟩⟩ => ⟨a, e, .inl ⟨t0, ps, .inr ⟨od, h a _ s⟩, k, r⟩⟩
  | .dct _ _, _, ⟨a, e, .inr ⟨t0, od, ps, s, k, r⟩⟩ => ⟨a, e, .inr ⟨t0, ps, .inr ⟨od, h a _ s⟩, k, r⟩⟩
theorem RepC.all {K : PySem.W.Frag} {G H : Hp} (h : Sub G H) : ∀ {d : D} {v : V}, RepC K H G d v → d.isDct = false → Rep K H d v
  | .non, _, e, _ => e
  | .bl _, _, e, _ => e
  | .int _, _, e, _ => e
  | .str _, _, e, _ => e
  | .obj _, _, e, _ => e
  | .tup _, _, e, _ => Rep.mono h e
  | .con _, _, e, _ => Rep.mono h e
  | .lst _, _, ⟨a, vs, e, s, r⟩, _ => ⟨a, vs, e, s, RepL.mono h r⟩
  | .dct _ _, _, _, n => by cases n
theorem RepC.mono {K : PySem.W.Frag} {G H G' H' : Hp} (h : Sub H H') (g : Sub G G') : ∀ {d : D} {v : V}, RepC K H G d v → RepC K H' G' d v
  | .non, _, e => e
  | .bl _, _, e => e
  | .int _, _, e => e
  | .str _, _, e => e
  | .obj _, _, e => e
  | .tup _, _, e => Rep.mono g e
  | .con _, _, e => Rep.mono g e
  | .lst _, _, ⟨a, vs, e, s, r⟩ => ⟨a, vs, e, h.sql s, RepL.mono g r⟩
  | .dct _ _, _, ⟨a, e, .inl ⟨t0, ps, s, k, r⟩⟩ => ⟨a, e, .inl ⟨t0, ps, h.rd s, k, RepV.mono g r⟩⟩
  | .dct _ _, _, ⟨a, e, .inr ⟨t0, ps, s, k, r⟩⟩ => ⟨a, e, .inr ⟨t0, ps, h.rd s, k, RepV.mono g r⟩⟩

/-- at a stands the list or dict d, that can be changed; its items in G -/
def OwnC (K : PySem.W.Frag) (H G : Hp) : D → Addr → Prop
  | .lst ds, a => ∃ vs, H a = some (.lst vs) ∧ RepL K G ds vs
  | .dct t kvs, a => (t = false ∧ ∃ ps, H a = some (.dK ps) ∧ kvs.map (·.1) = ps.map (fun p => keyD p.1) ∧ RepV K G kvs (ps.map (·.2))) ∨
      (t = true ∧ ∃ ps, H a = some (.dT ps) ∧ kvs.map (·.1) = ps.map (fun p => keyT p.1) ∧ RepV K G kvs (ps.map (·.2)))
  | _, _ => False
theorem OwnC.c {K : PySem.W.Frag} {H G : Hp} {d : D} {a : Addr} (h : OwnC K H G d a) : RepC K H G d (.ref a) := by
  cases d with
  | lst ds => obtain ⟨vs, e, r⟩ := h; exact ⟨a, vs, rfl, SqL.of e, r⟩
  | dct t kvs =>
    rcases h with ⟨t0, ps, e, k, r⟩ | ⟨t0, ps, e, k, r⟩
    · exact ⟨a, rfl, .inl ⟨t0, ps, .inl e, k, r⟩⟩
    · exact ⟨a, rfl, .inr ⟨t0, ps, .inl e, k, r⟩⟩
  | _ => exact h.elim
theorem OwnC.is {K : PySem.W.Frag} {H G : Hp} {d : D} {a : Addr} (h : OwnC K H G d a) : H a ≠ none := by
  cases d with
  | lst ds => obtain ⟨vs, e, r⟩ := h; rw [e]; simp
  | dct t kvs => rcases h with ⟨t0, ps, e, k, r⟩ | ⟨t0, ps, e, k, r⟩ <;> rw [e] <;> simp
  | _ => exact h.elim
theorem OwnC.mono' {K : PySem.W.Frag} {H H' G G' : Hp} {d : D} {a : Addr} (h : OwnC K H G d a) (e' : ∀ o, H a = some o → H' a = some o) (sg : Sub G G') : OwnC K H' G' d a := by
  cases d with
  | lst ds => obtain ⟨vs, e, r⟩ := h; exact ⟨vs, e' _ e, r.mono sg⟩
  | dct t kvs =>
    rcases h with ⟨t0, ps, e, k, r⟩ | ⟨t0, ps, e, k, r⟩
    · exact .inl ⟨t0, ps, e' _ e, k, r.mono sg⟩
    · exact .inr ⟨t0, ps, e' _ e, k, r.mono sg⟩
  | _ => exact h.elim
theorem OwnC.mono {K : PySem.W.Frag} {H H' G G' : Hp} {d : D} {a : Addr} (h : OwnC K H G d a) (sh : Sub H H') (sg : Sub G G') : OwnC K H' G' d a := h.mono' (fun o => sh a o) sg
theorem OwnC.put {K : PySem.W.Frag} {H G G' : Hp} {d : D} {a : Addr} (h : OwnC K H G d a) (nd : d.isDct = false) (sg : Sub G G') (e' : G' a = H a) : Rep K G' d (.ref a) := by
  cases d with
  | lst ds => obtain ⟨vs, e, r⟩ := h; exact ⟨a, vs, rfl, SqL.of (e'.trans e), r.mono sg⟩
  | dct t kvs => cases nd
  | _ => exact h.elim
/-- a dict that is locked is all men's -/
theorem OwnC.lock {K : PySem.W.Frag} {H G G' : Hp} {d : D} {a : Addr} (h : OwnC K H G d a) (nd : d.isDct = true) (sg : Sub G G') : ∃ u, H a = some u ∧ Mut (some u) ∧ ∀ od, G' a = some (.frz od u) → Rep K G' d (.ref a) := by
  cases d with
  | dct t kvs =>
    rcases h with ⟨t0, ps, e, k, r⟩ | ⟨t0, ps, e, k, r⟩
    · exact ⟨_, e, trivial, fun od q => ⟨a, rfl, .inl ⟨t0, od, ps, q, k, r.mono sg⟩⟩⟩
    · exact ⟨_, e, trivial, fun od q => ⟨a, rfl, .inr ⟨t0, od, ps, q, k, r.mono sg⟩⟩⟩
  | _ => cases nd
/-- things are locked, then P -/
inductive LockT (P : Hp → Prop) : Hp → Prop where
  | here {H : Hp} (h : P H) : LockT P H
  | lock {H : Hp} {d : Addr} {u : HO} (h : H d = some u) (mu : Mut (some u)) (k : ∀ od, LockT P (upd H d (.frz od u))) : LockT P H
theorem LockT.imp {P Q : Hp → Prop} {H : Hp} (h : LockT P H) (f : ∀ H, P H → Q H) : LockT Q H := by
  induction h with
  | here h => exact .here (f _ h)
  | lock h mu _ ih => exact .lock h mu ih
theorem LockT.bind {P Q : Hp → Prop} {H : Hp} (h : LockT P H) (f : ∀ H, P H → LockT Q H) : LockT Q H := by
  induction h with
  | here h => exact f _ h
  | lock h mu _ ih => exact .lock h mu ih
theorem LockT.inv {X : Cx} {pins : List (Addr × Obj)} {σ : L2.St} {s : Shared} {P : Hp → Prop} {H : Hp} (h : LockT P H) (I : Inv X pins σ H s) : ∃ H', Inv X pins σ H' s ∧ P H' := by
  induction h with
  | here h => exact ⟨_, I, h⟩
  | lock h mu _ ih =>
    obtain ⟨od, I1⟩ := I.lock h mu
    exact ih od I1
theorem _root_.L2.PE.lk {X : Cx} {e : Expr} {t t' : TE} (h : PE X e t) (f : ∀ σ H Q, t' σ H Q → LockT (fun H => t σ H Q) H) : PE X e t' := ⟨fun pins s σ H Q I q => by
  obtain ⟨H', I', q'⟩ := (f σ H Q q).inv I
  exact h.run pins s σ H' Q I' q'⟩
theorem _root_.L2.PE.lkP {X : Cx} {e : Expr} {t t' : TE} (h : PE X e t) (f : ∀ σ H Q, t' σ H Q → t σ H fun v H => LockT (Q v) H) : PE X e t' := ⟨fun pins s σ H Q I q =>
  thn (h.run pins s σ H _ I (f σ H Q q)) fun v s1 ⟨x, H1, I1, r, q⟩ => by
    obtain ⟨H2, I2, q2⟩ := q.inv I1
    exact ⟨x, H2, I2, r, q2⟩⟩
theorem _root_.L2.PS.lk {X : Cx} {e : Stmt} {t t' : TS} (h : PS X e t) (f : ∀ D σ H, t' D σ H → LockT (t D σ) H) : PS X e t' := ⟨fun pins s σ H D I q => by
  obtain ⟨H', I', q'⟩ := (f D σ H q).inv I
  exact h.run pins s σ H' D I' q'⟩
theorem _root_.L2.PSs.lk {X : Cx} {e : List Stmt} {t t' : TS} (h : PSs X e t) (f : ∀ D σ H, t' D σ H → LockT (t D σ) H) : PSs X e t' := ⟨fun pins s σ H D I q => by
  obtain ⟨H', I', q'⟩ := (f D σ H q).inv I
  exact h.run pins s σ H' D I' q'⟩
/-- .. what is given back is locked -/
theorem _root_.L2.PSs.lkR {X : Cx} {e : List Stmt} {t t' : TS} (h : PSs X e t) (f : ∀ D σ H, t' D σ H → t { D with rt := fun v H => LockT (D.rt v) H } σ H) : PSs X e t' := ⟨fun pins s σ H D I q =>
  thn (h.run pins s σ H _ I (f D σ H q)) fun fl s1 q => by
    cases fl with
    | next => exact q
    | brk => exact q
    | cont => exact q
    | ret v =>
      obtain ⟨x, σ', H', I2, r, q⟩ := q
      obtain ⟨H2, I3, q2⟩ := q.inv I2
      exact ⟨x, σ', H2, I3, r, q2⟩⟩

/-- where nothing stood, or a tuple -/
def Fr1 (H : Hp) (b : Addr) : Prop := H b = none ∨ ∃ vs, H b = some (.tup vs)
theorem Fr1.back {H H1 : Hp} {b : Addr} (s : Sub H H1) (h : Fr1 H1 b) : Fr1 H b := by
  cases q : H b with
  | none => exact .inl q
  | some o =>
    have := s _ _ q
    rcases h with h | ⟨vs, h⟩
    · rw [h] at this; cases this
    · rw [h] at this; cases this; exact .inr ⟨vs, q⟩
theorem OwnC.nfr {K : PySem.W.Frag} {H G : Hp} {d : D} {a : Addr} (h : OwnC K H G d a) : ¬ Fr1 H a := by
  intro z
  cases d with
  | lst ds =>
    obtain ⟨vs, e, r⟩ := h
    rcases z with z | ⟨ws, z⟩ <;> rw [e] at z <;> cases z
  | dct t kvs => rcases h with ⟨t0, ps, e, k, r⟩ | ⟨t0, ps, e, k, r⟩ <;> rcases z with z | ⟨ws, z⟩ <;> rw [e] at z <;> cases z
  | _ => exact h.elim
/-- behind a step: H to H', the part G to G' -/
structure Ext (H G H' G' : Hp) : Prop where
  hh : Sub H H'
  gg : Sub G G'
  gh : Sub G' H'
  new : ∀ b, G' b ≠ none → G b ≠ none ∨ Fr1 H b
theorem Ext.refl {H G : Hp} (g : Sub G H) : Ext H G H G := ⟨Sub.refl H, Sub.refl G, g, fun _ h => .inl h⟩
theorem Ext.trans {H G H1 G1 H2 G2 : Hp} (a : Ext H G H1 G1) (b : Ext H1 G1 H2 G2) : Ext H G H2 G2 :=
  ⟨a.hh.trans b.hh, a.gg.trans b.gg, b.gh, fun c h => by
    rcases b.new c h with z | z
    · exact a.new c z
    · exact .inr (z.back a.hh)⟩
/-- a new object that all may know -/
theorem Ext.laid {H G : Hp} {p : Addr} {o : HO} (g : Sub G H) (n : H p = none) : Ext H G (upd H p o) (upd G p o) :=
  ⟨Sub.upd n, Sub.upd (g.free n), fun b u e => by
    by_cases hb : b = p
    · subst hb; rw [upd_same] at e ⊢; exact e
    · rw [upd_ne hb] at e ⊢; exact g _ _ e, fun b h => by
    by_cases hb : b = p
    · subst hb; exact .inr (.inl n)
    · rw [upd_ne hb] at h; exact .inl h⟩

/-! ### exceptions -/
/-- which class value a class's name has; its fields' values -/
structure ExcKit where
  mg : Str → Option Value
def IsExc (K : PySem.W.Frag) (mg : Str → Option Value) (c : String) (fs : List D) (cls : Value) (o : Option Addr) (H : Hp) : Prop :=
  mg (Str.ofString c) = some cls ∧ match o with
    | none => fs = []
    | some d => fs ≠ [] ∧ ∃ ps, H d = some (.xd ps) ∧ RepL K H fs (ps.map (·.2))

/-! ### names -/
abbrev Sl := Option (D × Bool)
abbrev Env := List Sl
/-- the names' values, as a reckoning sees them: those at A may be kept -/
structure EnvG (K : PySem.W.Frag) (A : Nat → Prop) (σ : L2.St) (e : Env) (H G : Hp) : Prop where
  sub : Sub G H
  len : σ.length = e.length
  val : ∀ i d o, e[i]? = some (some (d, o)) → ∃ v, σ[i]? = some (some v) ∧ (A i ∨ o = false → Rep K G d v) ∧ RepC K H G d v
theorem EnvG.ext {K : PySem.W.Frag} {A : Nat → Prop} {σ : L2.St} {e : Env} {H G H' G' : Hp} (h : EnvG K A σ e H G) (x : Ext H G H' G') : EnvG K A σ e H' G' :=
  ⟨x.gh, h.len, fun i d o hi => let ⟨v, h1, h2, h3⟩ := h.val i d o hi; ⟨v, h1, fun z => (h2 z).mono x.gg, h3.mono x.hh x.gg⟩⟩

/-- what is wanted behind a reckoning -/
def PostG (K : PySem.W.Frag) (mg : Str → Option Value) (W : Value → Option Addr → Hp → Prop) (H G : Hp) {α : Type} (r : Res α) (R : α → Hp → Hp → Prop) : Prop := match r with
  | .ok a => ∀ H' G', Ext H G H' G' → R a H' G'
  | .exc c fs => ∀ cls o H', Sub H H' → IsExc K mg c fs cls o H' → W cls o H'
  | .bad => False
section
variable {K : PySem.W.Frag} {mg : Str → Option Value} {W : Value → Option Addr → Hp → Prop} {H G H' G' : Hp} {α β : Type}
theorem PostG.ext {r : Res α} {R : α → Hp → Hp → Prop} (h : PostG K mg W H G r R) (x : Ext H G H' G') : PostG K mg W H' G' r R := by
  cases r with
  | ok a => exact fun H2 G2 y => h H2 G2 (x.trans y)
  | exc c fs => exact fun cls o H2 y z => h cls o H2 (x.hh.trans y) z
  | bad => exact h
theorem PostG.imp {r : Res α} {R R' : α → Hp → Hp → Prop} (h : PostG K mg W H G r R) (f : ∀ a H' G', Ext H G H' G' → R a H' G' → R' a H' G') : PostG K mg W H G r R' := by
  cases r with
  | ok a => exact fun H2 G2 y => f a H2 G2 y (h H2 G2 y)
  | exc c fs => exact h
  | bad => exact h
theorem PostG.split {r : Res α} {f : α → Res β} {R : β → Hp → Hp → Prop} (h : PostG K mg W H G (r.bind f) R) : PostG K mg W H G r fun a H1 G1 => PostG K mg W H1 G1 (f a) R := by
  cases r with
  | ok a => exact fun H2 G2 y => PostG.ext (r := f a) h y
  | exc c fs => exact h
  | bad => exact h
theorem PostG.val {d : D} {Q : VK} (h : PostG K mg W H G (Res.ok d) fun d H' G' => ∀ v, Rep K G' d v → Q v H') (g : Sub G H) {v : V} (r : Rep K G d v) : Q v H := h H G (Ext.refl g) v r
theorem PostG.here {a : α} {R : α → Hp → Hp → Prop} (h : PostG K mg W H G (.ok a) R) (g : Sub G H) : R a H G := h H G (Ext.refl g)
end

theorem _root_.L2.PE.imp {X : Cx} {e : Expr} {t t' : TE} (h : PE X e t) (f : ∀ σ H Q, t' σ H Q → t σ H Q) : PE X e t' := ⟨fun pins s σ H Q I q => h.run pins s σ H Q I (f σ H Q q)⟩
theorem _root_.L2.PA.imp {X : Cx} {e : List Expr} {t t' : TA} (h : PA X e t) (f : ∀ σ H Q, t' σ H Q → t σ H Q) : PA X e t' := ⟨fun pos pins s σ H Q I q => h.run pos pins s σ H Q I (f σ H Q q)⟩
theorem _root_.L2.PT.imp {X : Cx} {e : Expr} {t t' : TT} (h : PT X e t) (f : ∀ σ H Q, t' σ H Q → t σ H Q) : PT X e t' := ⟨fun pins s σ H Q I q => h.run pins s σ H Q I (f σ H Q q)⟩
theorem _root_.L2.PW.imp {X : Cx} {e : Expr} {t t' : TT} (h : PW X e t) (f : ∀ σ H Q, t' σ H Q → t σ H Q) : PW X e t' := ⟨fun wh pins s σ H Q I q => h.run wh pins s σ H Q I (f σ H Q q)⟩
theorem _root_.L2.PS.imp {X : Cx} {e : Stmt} {t t' : TS} (h : PS X e t) (f : ∀ D σ H, t' D σ H → t D σ H) : PS X e t' := ⟨fun pins s σ H D I q => h.run pins s σ H D I (f D σ H q)⟩
theorem _root_.L2.PSs.imp {X : Cx} {e : List Stmt} {t t' : TS} (h : PSs X e t) (f : ∀ D σ H, t' D σ H → t D σ H) : PSs X e t' := ⟨fun pins s σ H D I q => h.run pins s σ H D I (f D σ H q)⟩
theorem _root_.L2.PI.imp {X : Cx} {tg e : Expr} {t t' : TI} (h : PI X tg e t) (f : ∀ σ H Q, t' σ H Q → t σ H Q) : PI X tg e t' := ⟨fun pins s σ H Q I q => h.run pins s σ H Q I (f σ H Q q)⟩

/-! ### the readings -/
section
variable (K : PySem.W.Frag) (mg : Str → Option Value) (W : WX) (A : Nat → Prop)
/-- a reckoning's value, kept by whoever has it -/
def tD (f : Env → Res D) : TE := fun σ H Q => ∃ e G, EnvG K A σ e H G ∧ PostG K mg (fun c o H' => W c o σ H') H G (f e) fun d H' G' => ∀ v, Rep K G' d v → Q v H'
/-- .. read alone -/
def tR (f : Env → Res D) : TE := fun σ H Q => ∃ e G, EnvG K A σ e H G ∧ PostG K mg (fun c o H' => W c o σ H') H G (f e) fun d H' G' => ∀ v, RepC K H' G' d v → Q v H'
/-- .. new, and of none else -/
def tF (f : Env → Res D) : TE := fun σ H Q => ∃ e G, EnvG K A σ e H G ∧ PostG K mg (fun c o H' => W c o σ H') H G (f e) fun d H' G' => ∀ a, H a = none → G' a = none → OwnC K H' G' d a → Q (.ref a) H'
def tDs (f : Env → Res (List D)) : TA := fun σ H Q => ∃ e G, EnvG K A σ e H G ∧ PostG K mg (fun c o H' => W c o σ H') H G (f e) fun ds H' G' => ∀ vs, RepL K G' ds vs → Q vs H'
def tT (f : Env → Res Bool) : TT := fun σ H Q => ∃ e G, EnvG K A σ e H G ∧ PostG K mg (fun c o H' => W c o σ H') H G (f e) fun b H' G' => Q b H'
end
section
variable {X : Cx} {W : WX} {A : Nat → Prop}
abbrev DE (X : Cx) (W : WX) (A : Nat → Prop) (ex : Expr) (f : Env → Res D) : Prop := PE X ex (tD X.K X.mg W A f)
abbrev DR (X : Cx) (W : WX) (A : Nat → Prop) (ex : Expr) (f : Env → Res D) : Prop := PE X ex (tR X.K X.mg W A f)
abbrev DF (X : Cx) (W : WX) (A : Nat → Prop) (ex : Expr) (f : Env → Res D) : Prop := PE X ex (tF X.K X.mg W A f)
abbrev DA (X : Cx) (W : WX) (A : Nat → Prop) (es : List Expr) (f : Env → Res (List D)) : Prop := PA X es (tDs X.K X.mg W A f)
abbrev DT (X : Cx) (W : WX) (A : Nat → Prop) (ex : Expr) (f : Env → Res Bool) : Prop := PT X ex (tT X.K X.mg W A f)
abbrev DW (X : Cx) (W : WX) (A : Nat → Prop) (ex : Expr) (f : Env → Res Bool) : Prop := PW X ex (tT X.K X.mg W A f)
/-- kept, so read -/
theorem dr {ex : Expr} {f : Env → Res D} (h : DE X W A ex f) : DR X W A ex f :=
  h.imp fun σ H Q ⟨e, G, E, p⟩ => ⟨e, G, E, p.imp fun d H' G' x q v r => q v (r.c x.gh)⟩
/-- new, so locked and all men's -/
theorem own_lock {K : PySem.W.Frag} {H G H' G' : Hp} {d : D} {a : Addr} (x : Ext H G H' G') (ha : H a = none) (ga : G' a = none) (rc : OwnC K H' G' d a) : LockT (fun H2 => ∃ G2, Ext H G H2 G2 ∧ Rep K G2 d (.ref a)) H' := by
  cases hd : d.isDct with
  | false =>
    have sg : Sub G' (fun b => if b = a then H' b else G' b) := fun b o q => by
      show (if b = a then H' b else G' b) = some o
      by_cases hb : b = a
      · subst hb; rw [ga] at q; cases q
      · rw [if_neg hb]; exact q
    have gaa : (fun b => if b = a then H' b else G' b : Hp) a = H' a := if_pos rfl
    refine .here ⟨fun b => if b = a then H' b else G' b, ⟨x.hh, x.gg.trans sg, fun b o q => ?_, fun b q => ?_⟩, rc.put hd sg gaa⟩
    · have q' : (if b = a then H' b else G' b) = some o := q
      by_cases hb : b = a
      · rw [if_pos hb] at q'; exact q'
      · rw [if_neg hb] at q'; exact x.gh _ _ q'
    · have q' : (if b = a then H' b else G' b) ≠ none := q
      by_cases hb : b = a
      · subst hb; exact .inr (.inl ha)
      · rw [if_neg hb] at q'; exact x.new b q'
  | true =>
    have sg : ∀ od u, Sub G' (upd G' a (.frz od u)) := fun od u => Sub.upd ga
    obtain ⟨u, hu, mu, _⟩ := rc.lock hd (Sub.refl G')
    refine .lock hu mu fun od => .here ⟨upd G' a (.frz od u), ⟨fun b o q => ?_, x.gg.trans (sg od u), fun b o q => ?_, fun b q => ?_⟩, ?_⟩
    · have nb : b ≠ a := fun z => by rw [z, ha] at q; cases q
      rw [upd_ne nb]; exact x.hh b o q
    · by_cases hb : b = a
      · subst hb; rw [upd_same] at q ⊢; exact q
      · rw [upd_ne hb] at q ⊢; exact x.gh b o q
    · by_cases hb : b = a
      · subst hb; exact .inr (.inl ha)
      · rw [upd_ne hb] at q; exact x.new b q
    · obtain ⟨u', hu', _, k⟩ := rc.lock hd (sg od u)
      rw [hu] at hu'; cases hu'
      exact k od upd_same
/-- new, so kept -/
theorem de_of {ex : Expr} {f : Env → Res D} (h : DF X W A ex f) : DE X W A ex f :=
  h.lkP fun σ H Q ⟨e, G, E, p⟩ => ⟨e, G, E, by
    cases hr : f e with
    | exc c fs => rw [hr] at p; exact p
    | bad => rw [hr] at p; exact p
    | ok d =>
      rw [hr] at p
      intro H' G' x a ha ga rc
      exact (own_lock x ha ga rc).imp fun H2 ⟨G2, y, r⟩ => p H2 G2 y (.ref a) r⟩

/-! ### names, constants -/
def eVar (i : Nat) : Env → Res D := fun e => match e[i]? with
  | some (some (d, _)) => .ok d
  | _ => .bad
def eC (d : D) : Env → Res D := fun _ => .ok d
theorem de_var {i : Nat} {x : Str} {pos : Pos} (hN : X.N[i]? = some x) (hv : Vis X.env.scope x) (hA : A i) (hd : (x == ("__debug__" : Str)) = false := by decide) (hcd : (x == ("__classdict__" : Str)) = false := by decide) : DE X W A (.Name x pos) (eVar i) :=
  (pe_var hN hv hd hcd).imp fun σ H Q ⟨e, G, E, p⟩ => by
    unfold eVar at p
    cases h : e[i]? with
    | none => rw [h] at p; exact p.elim
    | some s => cases s with
      | none => rw [h] at p; exact p.elim
      | some z =>
        obtain ⟨d, o⟩ := z
        rw [h] at p
        obtain ⟨v, h1, h2, h3⟩ := E.val i d o h
        exact ⟨v, h1, p.here E.sub v (h2 (.inl hA))⟩
/-- a name that is read alone -/
theorem dr_var {i : Nat} {x : Str} {pos : Pos} (hN : X.N[i]? = some x) (hv : Vis X.env.scope x) (hd : (x == ("__debug__" : Str)) = false := by decide) (hcd : (x == ("__classdict__" : Str)) = false := by decide) : DR X W A (.Name x pos) (eVar i) :=
  (pe_var hN hv hd hcd).imp fun σ H Q ⟨e, G, E, p⟩ => by
    unfold eVar at p
    cases h : e[i]? with
    | none => rw [h] at p; exact p.elim
    | some s => cases s with
      | none => rw [h] at p; exact p.elim
      | some z =>
        obtain ⟨d, o⟩ := z
        rw [h] at p
        obtain ⟨v, h1, h2, h3⟩ := E.val i d o h
        exact ⟨v, h1, p.here E.sub v h3⟩
theorem de_const {ex : Expr} {v : V} {d : D} (h : PE X ex (tC v)) (r : ∀ G, Rep X.K G d v) : DE X W A ex (eC d) :=
  h.imp fun σ H Q ⟨e, G, E, p⟩ => p.here E.sub v (r G)
theorem de_int {i j pos} : DE X W A (.Constant (.int i) j pos) (eC (.int i)) := de_const pe_int fun _ => rfl
theorem de_bl {b j pos} : DE X W A (.Constant (.bool b) j pos) (eC (.bl b)) := de_const pe_bl fun _ => rfl
theorem de_non {j pos} : DE X W A (.Constant .none j pos) (eC .non) := de_const pe_non fun _ => rfl
theorem de_str {x j pos} : DE X W A (.Constant (.str x) j pos) (eC (.str x)) := de_const pe_str fun _ => rfl
/-- a module's constant -/
theorem de_glob {x : Str} {v : V} {u : Value} {d : D} {pos : Pos} (hg : Gl X x) (hm : X.mg x = some u) (r : RelV v u) (q : ∀ G, Rep X.K G d v) (hd : (x == ("__debug__" : Str)) = false := by decide) : DE X W A (.Name x pos) (eC d) :=
  de_const (pe_glob hg hm r hd) q

/-! ### operators on two values -/
def eOp (g : D → D → Res D) (fa fb : Env → Res D) : Env → Res D := fun e => (fa e).bind fun x => (fb e).bind fun y => g x y
/-- the operation f does on data what g says -/
def OpD (X : Cx) (W : WX) (f : Value → Value → Sem Value) (g : D → D → Res D) : Prop :=
  ∃ r, OpR X f r ∧ ∀ (σ : L2.St) (H G : Hp) (x y : V) (dx dy : D) (Q : VK), Sub G H → RepC X.K H G dx x → RepC X.K H G dy y →
    PostG X.K X.mg (fun c o H' => W c o σ H') H G (g dx dy) (fun d H' G' => ∀ v, Rep X.K G' d v → Q v H') → r x y H Q
theorem op_two {r : R2} {g : D → D → Res D} {fa fb : Env → Res D} {ta tb : TE} (hta : ta = tR X.K X.mg W A fa) (htb : tb = tR X.K X.mg W A fb)
    (h : ∀ (σ : L2.St) (H G : Hp) (x y : V) (dx dy : D) (Q : VK), Sub G H → RepC X.K H G dx x → RepC X.K H G dy y →
      PostG X.K X.mg (fun c o H' => W c o σ H') H G (g dx dy) (fun d H' G' => ∀ v, Rep X.K G' d v → Q v H') → r x y H Q) (σ : L2.St) (H : Hp) (Q : VK) (q : tD X.K X.mg W A (eOp g fa fb) σ H Q) : tOp r ta tb σ H Q := by
  subst hta htb
  obtain ⟨e, G, E, p⟩ := q
  refine ⟨e, G, E, p.split.imp fun dx H1 G1 x1 p1 v rv => ?_⟩
  refine ⟨e, G1, E.ext x1, p1.split.imp fun dy H2 G2 x2 p2 u ru => ?_⟩
  exact h σ H2 G2 v u dx dy Q x2.gh (rv.mono x2.hh x2.gg) ru p2
theorem de_bin {op : Operator} {a b : Expr} {fa fb : Env → Res D} {g : D → D → Res D} {pos : Pos} (ho : OpD X W (binaryOp op) g) (ha : DR X W A a fa) (hb : DR X W A b fb) : DE X W A (.BinOp a op b pos) (eOp g fa fb) := by
  obtain ⟨r, h1, h2⟩ := ho
  exact (pe_op h1 ha hb).imp (op_two rfl rfl h2)
theorem de_cmp {op : CmpOp} {a b : Expr} {fa fb : Env → Res D} {g : D → D → Res D} {pos : Pos} (ho : OpD X W (compareOp op) g) (ha : DR X W A a fa) (hb : DR X W A b fb) (hm : behindInMarks op b = false) : DE X W A (.Compare a [op] [b] pos) (eOp g fa fb) := by
  obtain ⟨r, h1, h2⟩ := ho
  exact (pe_cmpR h1 ha hb hm).imp (op_two rfl rfl h2)
end
end DL

namespace DL
open PySem PySem.Spec PyProof.Rows L2
open PySem.Builtin.Int (intBits)

/-! ### whole numbers -/
def big : Nat := 130000000
theorem mul_ok {i j : Int} (h : intBits i + intBits j ≤ big) : IntMulOk i j := by
  have e : bitsLine = 134217728 := by decide
  unfold IntMulOk
  intro z
  rw [Bool.and_eq_true] at z
  have z2 := z.2
  unfold Builtin.Int.intTooBig at z2
  have z3 := of_decide_eq_true z2
  rw [e] at z3
  have hb : big = 130000000 := rfl
  omega
section
variable {X : Cx} {W : WX}
/-- a rule for two values, where it is told of data -/
theorem OpD.or {f : Value → Value → Sem Value} {g1 g2 : D → D → Res D} (c : D → D → Bool) (h1 : OpD X W f g1) (h2 : OpD X W f g2) : OpD X W f fun x y => if c x y = true then g1 x y else g2 x y := by
  obtain ⟨r1, o1, q1⟩ := h1
  obtain ⟨r2, o2, q2⟩ := h2
  refine ⟨_, OpR.or o1 o2, fun σ H G x y dx dy Q sg rx ry p => ?_⟩
  dsimp only at p
  by_cases hc : c dx dy = true
  · rw [if_pos hc] at p; exact .inl (q1 σ H G x y dx dy Q sg rx ry p)
  · rw [if_neg hc] at p; exact .inr (q2 σ H G x y dx dy Q sg rx ry p)
theorem OpD.congr {f : Value → Value → Sem Value} {g1 g2 : D → D → Res D} (h : OpD X W f g1) (e : ∀ x y, g2 x y = .bad ∨ g2 x y = g1 x y) : OpD X W f g2 := by
  obtain ⟨r, o, q⟩ := h
  refine ⟨r, o, fun σ H G x y dx dy Q sg rx ry p => ?_⟩
  rcases e dx dy with z | z
  · rw [z] at p; exact p.elim
  · rw [z] at p; exact q σ H G x y dx dy Q sg rx ry p

/-- ints in, an int out -/
def gI (C : Int → Int → Bool) (g : Int → Int → Int) : D → D → Res D
  | .int i, .int j => if C i j = true then .ok (.int (g i j)) else .bad
  | _, _ => .bad
theorem od_I {f : Value → Value → Sem Value} {C : Int → Int → Bool} {g : Int → Int → Int}
    (rule : ∀ (i j : Int) (t u : Tok) (s : Shared) (Q : Value → Shared → Prop) (E : Value → Shared → Prop), C i j = true → Q (.int (g i j) s.toks) { s with toks := s.toks + 1 } → wpAny (model X.prog X.w) X.A (f (.int i t) (.int j u)) Q E s) :
    OpD X W f (gI C g) := by
  refine ⟨rI (fun i j => C i j = true) fun i j => .int (g i j), opI rule, fun σ H G x y dx dy Q sg rx ry p => ?_⟩
  cases dx with
  | int i =>
    cases dy with
    | int j =>
      have rx' : x = .int i := rx
      have ry' : y = .int j := ry
      dsimp only [gI] at p
      by_cases hc : C i j = true
      · rw [if_pos hc] at p
        exact ⟨i, j, rx', ry', hc, p.here sg _ rfl⟩
      · rw [if_neg hc] at p
        exact p.elim
    | _ => exact (show False from p).elim
  | _ => cases dy <;> exact (show False from p).elim
def cT : Int → Int → Bool := fun _ _ => true
def cMul : Int → Int → Bool := fun i j => decide (intBits i + intBits j ≤ big)
def cDiv : Int → Int → Bool := fun _ j => decide (j ≠ 0 ∧ j.natAbs.log2 < 9000)
def cMod : Int → Int → Bool := fun _ j => decide (j ≠ 0)
def cPow : Int → Int → Bool := fun i j => decide (0 ≤ j ∧ (intBits i : Int) * j ≤ 2 ^ 27)
theorem od_subI : OpD X W (binaryOp .Sub) (gI cT fun i j => i - j) := od_I fun _ _ _ _ _ _ _ _ q => sub_int q
theorem od_mulI : OpD X W (binaryOp .Mult) (gI cMul fun i j => i * j) := od_I fun _ _ _ _ _ _ _ c q => mul_int q (mul_ok (of_decide_eq_true c))
theorem od_divI : OpD X W (binaryOp .FloorDiv) (gI cDiv fun i j => i.fdiv j) := od_I fun _ _ _ _ _ _ _ c q =>
  have c' := of_decide_eq_true c
  floordiv_int c'.1 q (.inl (PyProof.noPylong_of_log2 c'.2))
theorem od_modI : OpD X W (binaryOp .Mod) (gI cMod fun i j => i.fmod j) := od_I fun _ _ _ _ _ _ _ c q => mod_int' (of_decide_eq_true c) q
theorem od_powI : OpD X W (binaryOp .Pow) (gI cPow fun i j => i ^ j.toNat) := od_I fun _ _ _ _ _ _ _ c q =>
  have c' := of_decide_eq_true c
  pow_int c'.1 c'.2 q
/-! ### + of texts, tuples, lists -/
def dAdd : D → D → Res D
  | .int i, .int j => .ok (.int (i + j))
  | .str a, .str b => if a.length + b.length ≤ sizeLine then .ok (.str (a ++ b)) else .bad
  | .tup a, .tup b => if a.length + b.length ≤ sizeLine then .ok (.tup (a ++ b)) else .bad
  | .lst a, .lst b => if a.length + b.length ≤ sizeLine then .ok (.lst (a ++ b)) else .bad
  | _, _ => .bad
/-- a + b of lists that are read -/
def rCatR (K : PySem.W.Frag) : R2 := fun x y H Q => ∃ l b xs zs, x = .ref l ∧ y = .ref b ∧ SqL K H l xs ∧ SqL K H b zs ∧ xs.length + zs.length ≤ sizeLine ∧ ∀ p, H p = none → Q (.ref p) (upd H p (.lst (xs ++ zs)))
theorem op_catR : OpR X (binaryOp .Add) (rCatR X.K) := by
  intro pins s σ H x y v u Q I rx ry h
  obtain ⟨l, b, xs, zs, rfl, rfl, hH, hB, hz, q⟩ := h
  cases rx
  cases ry
  obtain ⟨its, r, ⟨⟨cls, dd, data, sl⟩, n, ho, hc, hdd, hd⟩, _⟩ := I.list hH
  obtain ⟨its2, r2, ⟨⟨cls2, dd2, data2, sl2⟩, n2, ho2, hc2, hdd2, hd2⟩, _⟩ := I.list hB
  simp only at hc hd hc2 hd2
  subst hc hd hc2 hd2
  have l1 := r.length
  have l2 := r2.length
  have e : its.toArray ++ its2.toArray = (its ++ its2).toArray := by simp
  refine concat_meets ⟨_, ho, rfl⟩ ⟨_, ho2, rfl⟩ noFill_list_add seq_list_add PySem.F.slot_list_add PySem.F.entry_list_add (PySem.F.args_list_add_2 _ _) (list_addW l b its.toArray its2.toArray n n2 dd dd2 sl sl2 (by simp; omega)) ⟨ho, ho2, ?_⟩
  rw [e]
  exact ⟨.ref _, _, I.lnew (t' := s.toks) (r.append r2) (by rw [List.length_append]; omega), rfl, q _ I.fresh⟩
theorem op_addS' : OpR X (binaryOp .Add) (fun x y H Q => ∃ i j, x = .str i ∧ y = .str j ∧ i.length + j.length ≤ sizeLine ∧ Q (.str (i ++ j)) H) := op_add_str
theorem od_add : OpD X W (binaryOp .Add) dAdd := by
  refine ⟨_, OpR.or op_add (OpR.or op_addS' (OpR.or op_catA op_catR)), fun σ H G x y dx dy Q sg rx ry p => ?_⟩
  cases dx with
  | int i =>
    cases dy with
    | int j => exact .inl ⟨i, j, rx, ry, PostG.val (d := .int (i + j)) p sg rfl⟩
    | _ => exact (show False from p).elim
  | str i =>
    cases dy with
    | str j =>
      dsimp only [dAdd] at p
      by_cases hc : i.length + j.length ≤ sizeLine
      · rw [if_pos hc] at p
        exact .inr (.inl ⟨i, j, rx, ry, hc, p.here sg _ rfl⟩)
      · rw [if_neg hc] at p; exact p.elim
    | _ => exact (show False from p).elim
  | tup i =>
    cases dy with
    | tup j =>
      dsimp only [dAdd] at p
      by_cases hc : i.length + j.length ≤ sizeLine
      · rw [if_pos hc] at p
        obtain ⟨a, vs, e1, s1, r1⟩ := (show Rep X.K G (.tup i) x from rx)
        obtain ⟨b, ws, e2, s2, r2⟩ := (show Rep X.K G (.tup j) y from ry)
        refine .inr (.inr (.inl ⟨a, b, vs, ws, e1, e2, sg.pt s1, sg.pt s2, by rw [r1.length, r2.length]; exact hc, fun z => ?_, fun z1 z2 => ?_, fun z1 z2 q hq => ?_⟩))
        · subst z
          refine p.here sg _ ⟨b, ws, rfl, s2, ?_⟩
          cases i with
          | nil => exact r2
          | cons d ds => obtain ⟨_, _, e, _⟩ := r1; cases e
        · subst z2
          refine p.here sg _ ⟨a, vs, rfl, s1, ?_⟩
          cases j with
          | nil => rw [List.append_nil]; exact r1
          | cons d ds => obtain ⟨_, _, e, _⟩ := r2; cases e
        · exact p _ _ (Ext.laid sg hq) _ ⟨q, _, rfl, upd_same, (r1.append r2).mono (Sub.upd (sg.free hq))⟩
      · rw [if_neg hc] at p; exact p.elim
    | _ => exact (show False from p).elim
  | lst i =>
    cases dy with
    | lst j =>
      dsimp only [dAdd] at p
      by_cases hc : i.length + j.length ≤ sizeLine
      · rw [if_pos hc] at p
        obtain ⟨a, vs, e1, s1, r1⟩ := rx
        obtain ⟨b, ws, e2, s2, r2⟩ := ry
        refine .inr (.inr (.inr ⟨a, b, vs, ws, e1, e2, s1, s2, by rw [r1.length, r2.length]; exact hc, fun q hq => ?_⟩))
        exact p _ _ (Ext.laid sg hq) _ ⟨q, _, rfl, SqL.of upd_same, (r1.append r2).mono (Sub.upd (sg.free hq))⟩
      · rw [if_neg hc] at p; exact p.elim
    | _ => exact (show False from p).elim
  | _ => exact (show False from p).elim

/-! ### * -/
def dMul : D → D → Res D
  | .int i, .int j => if intBits i + intBits j ≤ big then .ok (.int (i * j)) else .bad
  | _, _ => .bad
theorem od_mul : OpD X W (binaryOp .Mult) dMul := od_mulI.congr fun x y => by
  cases x <;> cases y <;> first
    | exact .inl rfl
    | exact .inr (by simp [dMul, gI, cMul])
def dSub : D → D → Res D
  | .int i, .int j => .ok (.int (i - j))
  | _, _ => .bad
theorem od_sub : OpD X W (binaryOp .Sub) dSub := od_subI.congr fun x y => by
  cases x <;> cases y <;> first
    | exact .inl rfl
    | exact .inr (by simp [dSub, gI, cT])
def dDiv : D → D → Res D
  | .int i, .int j => if j ≠ 0 ∧ j.natAbs.log2 < 9000 then .ok (.int (i.fdiv j)) else .bad
  | _, _ => .bad
theorem od_div : OpD X W (binaryOp .FloorDiv) dDiv := od_divI.congr fun x y => by
  cases x <;> cases y <;> first
    | exact .inl rfl
    | exact .inr (by simp [dDiv, gI, cDiv])
def dMod : D → D → Res D
  | .int i, .int j => if j ≠ 0 then .ok (.int (i.fmod j)) else .bad
  | _, _ => .bad
theorem od_mod : OpD X W (binaryOp .Mod) dMod := od_modI.congr fun x y => by
  cases x <;> cases y <;> first
    | exact .inl rfl
    | exact .inr (by simp [dMod, gI, cMod])
def dPow : D → D → Res D
  | .int i, .int j => if 0 ≤ j ∧ (intBits i : Int) * j ≤ 2 ^ 27 then .ok (.int (i ^ j.toNat)) else .bad
  | _, _ => .bad
theorem od_pow : OpD X W (binaryOp .Pow) dPow := od_powI.congr fun x y => by
  cases x <;> cases y <;> first
    | exact .inl rfl
    | exact .inr (by simp [dPow, gI, cPow])

end

/-! ### == of data -/
mutual
def D.py : D → PyData
  | .non => .none
  | .bl b => .bool b
  | .int i => .int i
  | .str x => .str x
  | .obj _ => .none
  | .tup xs => .tuple (D.pys xs)
  | .lst xs => .list (D.pys xs)
  | .dct _ _ => .none
  | .con xs => .tuple (D.pys xs)
def D.pys : List D → List PyData
  | [] => []
  | d :: r => D.py d :: D.pys r
end
mutual
/-- without dicts and objects; texts that are texts; at most so deep -/
def D.pl : D → Nat → Bool
  | .non, _ => true
  | .bl _, _ => true
  | .int _, _ => true
  | .str x, _ => PyData.strOk x
  | .obj _, _ => false
  | .tup xs, n => match n with
    | 0 => false
    | n + 1 => D.pls xs n
  | .lst xs, n => match n with
    | 0 => false
    | n + 1 => D.pls xs n
  | .dct _ _, _ => false
  | .con xs, n => match n with
    | 0 => false
    | n + 1 => D.pls xs n
def D.pls : List D → Nat → Bool
  | [], _ => true
  | d :: r, n => D.pl d n && D.pls r n
end
theorem pl_nd {d : D} {n : Nat} (h : d.pl n = true) : d.isDct = false := by
  cases d with
  | dct t kvs => simp [D.pl] at h
  | _ => rfl
mutual
theorem py_can : ∀ (d : D) (n : Nat), d.pl n = true → d.py.canLay0 = true ∧ d.py.depth ≤ n
  | .non, n, _ => ⟨by simp [D.py, PyData.canLay0], by simp [D.py, PyData.depth]⟩
  | .bl _, n, _ => ⟨by simp [D.py, PyData.canLay0], by simp [D.py, PyData.depth]⟩
  | .int _, n, _ => ⟨by simp [D.py, PyData.canLay0], by simp [D.py, PyData.depth]⟩
  | .str _, n, h => ⟨by simpa [D.py, PyData.canLay0, D.pl] using h, by simp [D.py, PyData.depth]⟩
  | .obj _, n, h => by simp [D.pl] at h
  | .dct _ _, n, h => by simp [D.pl] at h
  | .con xs, 0, h => by simp [D.pl] at h
  | .con xs, n + 1, h => by
    have := pys_can xs n (by simpa [D.pl] using h)
    exact ⟨by simpa [D.py, PyData.canLay0] using this.1, by simp [D.py, PyData.depth]; exact this.2⟩
  | .tup xs, 0, h => by simp [D.pl] at h
  | .lst xs, 0, h => by simp [D.pl] at h
  | .tup xs, n + 1, h => by
    have := pys_can xs n (by simpa [D.pl] using h)
    exact ⟨by simpa [D.py, PyData.canLay0] using this.1, by simp [D.py, PyData.depth]; exact this.2⟩
  | .lst xs, n + 1, h => by
    have := pys_can xs n (by simpa [D.pl] using h)
    exact ⟨by simpa [D.py, PyData.canLay0] using this.1, by simp [D.py, PyData.depth]; exact this.2⟩
theorem pys_can : ∀ (ds : List D) (n : Nat), D.pls ds n = true → PyData.canLayAll0 (D.pys ds) = true ∧ PyData.depthAll (D.pys ds) ≤ n
  | [], n, _ => ⟨by simp [D.pys, PyData.canLayAll0], by simp [D.pys, PyData.depthAll]⟩
  | d :: r, n, h => by
    have h' : d.pl n = true ∧ D.pls r n = true := by simpa [D.pls] using h
    have a := py_can d n h'.1
    have b := pys_can r n h'.2
    exact ⟨by simp [D.pys, PyData.canLayAll0, a.1, b.1], by simp only [D.pys, PyData.depthAll]; omega⟩
end
mutual
theorem Rep.dp {K : PySem.W.Frag} {H : Hp} : ∀ (d : D) (n : Nat) (v : V), d.pl n = true → Rep K H d v → Dp K H v d.py
  | .non, n, v, _, r => by rw [show v = .non from r]; exact .non
  | .bl b, n, v, _, r => by rw [show v = .bl b from r]; exact .bl b
  | .int i, n, v, _, r => by rw [show v = .int i from r]; exact .int i
  | .str x, n, v, _, r => by rw [show v = .str x from r]; exact .str x
  | .obj _, n, v, h, r => by simp [D.pl] at h
  | .dct _ _, n, v, h, r => by simp [D.pl] at h
  | .con xs, 0, v, h, r => by simp [D.pl] at h
  | .con xs, n + 1, v, h, r => by
    obtain ⟨a, vs, e, s, q⟩ := r
    subst e
    exact .tup s (RepL.dp xs n vs (by simpa [D.pl] using h) q)
  | .tup xs, 0, v, h, r => by simp [D.pl] at h
  | .lst xs, 0, v, h, r => by simp [D.pl] at h
  | .tup xs, n + 1, v, h, r => by
    obtain ⟨a, vs, e, s, q⟩ := r
    subst e
    exact .tup (SqT.of s) (RepL.dp xs n vs (by simpa [D.pl] using h) q)
  | .lst xs, n + 1, v, h, r => by
    obtain ⟨a, vs, e, s, q⟩ := r
    subst e
    exact .lst s (RepL.dp xs n vs (by simpa [D.pl] using h) q)
theorem RepL.dp {K : PySem.W.Frag} {H : Hp} : ∀ (ds : List D) (n : Nat) (vs : List V), D.pls ds n = true → RepL K H ds vs → DpAll K H vs (D.pys ds)
  | [], n, vs, _, r => by rw [show vs = [] from r]; exact .nil
  | d :: ds, n, vs, h, r => by
    obtain ⟨v, t, e, a, b⟩ := r
    subst e
    have h' : d.pl n = true ∧ D.pls ds n = true := by simpa [D.pls] using h
    exact .cons (Rep.dp d n v h'.1 a) (RepL.dp ds n t h'.2 b)
end
theorem shaped_py {d : D} {n : Nat} (h : d.pl n = true) (hn : n ≤ 64) : SeqAt.shaped d.py = true := by
  have := py_can d n h
  unfold SeqAt.shaped
  rw [this.1, decide_eq_true (by omega : d.py.depth ≤ 64)]
  rfl
def D.beq (x y : D) : Bool := PyData.eqv x.py y.py
def dEq : D → D → Res D
  | .str a, .str b => .ok (.bl (decide (a = b)))
  | x, y => if x.pl 60 = true ∧ y.pl 60 = true then .ok (.bl (D.beq x y)) else .bad
def dNe : D → D → Res D
  | .str a, .str b => .ok (.bl (!decide (a = b)))
  | x, y => if x.pl 60 = true ∧ y.pl 60 = true then .ok (.bl (!D.beq x y)) else .bad
section
variable {X : Cx} {W : WX}
theorem od_eq (hu : X.A.units + 64 < cLine) : OpD X W (compareOp .Eq) dEq := by
  refine ⟨_, OpR.or op_eq (op_eqD hu), fun σ H G x y dx dy Q sg rx ry p => ?_⟩
  have gen : PostG X.K X.mg (fun c o H' => W c o σ H') H G (if dx.pl 60 = true ∧ dy.pl 60 = true then .ok (.bl (D.beq dx dy)) else .bad) (fun d H' G' => ∀ v, Rep X.K G' d v → Q v H') → rEq x y H Q ∨ rEqD X.K x y H Q := fun p => by
    by_cases hc : dx.pl 60 = true ∧ dy.pl 60 = true
    · rw [if_pos hc] at p
      exact .inr ⟨dx.py, dy.py, Rep.dp dx 60 x hc.1 (rx.all sg (pl_nd hc.1)), Rep.dp dy 60 y hc.2 (ry.all sg (pl_nd hc.2)), shaped_py hc.1 (by decide), shaped_py hc.2 (by decide), p.here sg _ rfl⟩
    · rw [if_neg hc] at p; exact p.elim
  cases dx with
  | str a =>
    cases dy with
    | str b =>
      have rx' : x = .str a := rx
      have ry' : y = .str b := ry
      subst rx' ry'
      refine .inl ⟨rfl, ?_⟩
      have q : Q (.bl (decide (a = b))) H := PostG.val (d := .bl (decide (a = b))) p sg rfl
      have e : decide (V.str a = V.str b) = decide (a = b) := by simp
      rw [e]; exact q
    | _ => exact gen p
  | _ => exact gen p
theorem od_ne (hu : X.A.units + 64 < cLine) : OpD X W (compareOp .NotEq) dNe := by
  refine ⟨_, OpR.or op_ne (op_neD hu), fun σ H G x y dx dy Q sg rx ry p => ?_⟩
  have gen : PostG X.K X.mg (fun c o H' => W c o σ H') H G (if dx.pl 60 = true ∧ dy.pl 60 = true then .ok (.bl (!D.beq dx dy)) else .bad) (fun d H' G' => ∀ v, Rep X.K G' d v → Q v H') → rNe x y H Q ∨ rNeD X.K x y H Q := fun p => by
    by_cases hc : dx.pl 60 = true ∧ dy.pl 60 = true
    · rw [if_pos hc] at p
      exact .inr ⟨dx.py, dy.py, Rep.dp dx 60 x hc.1 (rx.all sg (pl_nd hc.1)), Rep.dp dy 60 y hc.2 (ry.all sg (pl_nd hc.2)), shaped_py hc.1 (by decide), shaped_py hc.2 (by decide), p.here sg _ rfl⟩
    · rw [if_neg hc] at p; exact p.elim
  cases dx with
  | str a =>
    cases dy with
    | str b =>
      have rx' : x = .str a := rx
      have ry' : y = .str b := ry
      subst rx' ry'
      refine .inl ⟨rfl, ?_⟩
      have q : Q (.bl (!decide (a = b))) H := PostG.val (d := .bl (!decide (a = b))) p sg rfl
      have e : decide (V.str a = V.str b) = decide (a = b) := by simp
      rw [e]; exact q
    | _ => exact gen p
  | _ => exact gen p
end
/-! ### < of data -/
/-- the two can be compared -/
def D.cmpb (x y : D) : Bool := x.pl 60 && y.pl 60 && PySem.W.alike x.py y.py && (match x with | .non => false | _ => true)
/-- x < y, of data that can be compared -/
def D.lt (x y : D) : Bool := PySem.W.dataLt x.py y.py
def cmpD (f : D → D → Bool) (x y : D) : Res D := if D.cmpb x y = true then .ok (.bl (f x y)) else .bad
def dLt : D → D → Res D
  | .int i, .int j => .ok (.bl (decide (i < j)))
  | x, y => cmpD (fun x y => D.lt x y) x y
def dLe : D → D → Res D
  | .int i, .int j => .ok (.bl (decide (i ≤ j)))
  | x, y => cmpD (fun x y => !D.lt y x) x y
def dGt : D → D → Res D
  | .int i, .int j => .ok (.bl (decide (j < i)))
  | x, y => cmpD (fun x y => D.lt y x) x y
def dGe : D → D → Res D
  | .int i, .int j => .ok (.bl (decide (j ≤ i)))
  | x, y => cmpD (fun x y => !D.lt x y) x y
def rCmpD (K : PySem.W.Frag) (f : PyData → PyData → Bool) : R2 := fun x y H Q => ∃ d e, Dp K H x d ∧ Dp K H y e ∧ SeqAt.shaped d = true ∧ SeqAt.shaped e = true ∧ PySem.W.alike d e = true ∧ d ≠ .none ∧ Q (.bl (f d e)) H
theorem shaped_depth {d : PyData} (h : SeqAt.shaped d = true) : d.depth ≤ 64 := by
  unfold SeqAt.shaped at h
  rw [Bool.and_eq_true] at h
  exact of_decide_eq_true h.2
section
variable {X : Cx} {W : WX}
theorem op_ltD (hu : X.A.units + 64 < cLine) : OpR X (compareOp .Lt) (rCmpD X.K PySem.W.dataLt) := by
  intro pins s σ H x y v u Q I rx ry h
  obtain ⟨d, e, hd, he, sd, se, al, nn, q⟩ := h
  obtain ⟨as, r1⟩ := Dp.reads I d x v hd rx
  obtain ⟨bs, r2⟩ := Dp.reads I e y u he ry
  have := shaped_depth sd
  exact PySem.W.lt_data r1 r2 al nn (by omega) ⟨.bl _, H, I, rfl, q⟩
theorem op_gtD (hu : X.A.units + 64 < cLine) : OpR X (compareOp .Gt) (rCmpD X.K fun d e => PySem.W.dataLt e d) := by
  intro pins s σ H x y v u Q I rx ry h
  obtain ⟨d, e, hd, he, sd, se, al, nn, q⟩ := h
  obtain ⟨as, r1⟩ := Dp.reads I d x v hd rx
  obtain ⟨bs, r2⟩ := Dp.reads I e y u he ry
  have := shaped_depth sd
  exact PySem.W.gt_data r1 r2 al nn (by omega) ⟨.bl _, H, I, rfl, q⟩
theorem op_leD (hu : X.A.units + 64 < cLine) : OpR X (compareOp .LtE) (rCmpD X.K fun d e => !PySem.W.dataLt e d) := by
  intro pins s σ H x y v u Q I rx ry h
  obtain ⟨d, e, hd, he, sd, se, al, nn, q⟩ := h
  obtain ⟨as, r1⟩ := Dp.reads I d x v hd rx
  obtain ⟨bs, r2⟩ := Dp.reads I e y u he ry
  have := shaped_depth sd
  exact PySem.W.le_data r1 r2 al nn (by omega) ⟨.bl _, H, I, rfl, q⟩
theorem op_geD (hu : X.A.units + 64 < cLine) : OpR X (compareOp .GtE) (rCmpD X.K fun d e => !PySem.W.dataLt d e) := by
  intro pins s σ H x y v u Q I rx ry h
  obtain ⟨d, e, hd, he, sd, se, al, nn, q⟩ := h
  obtain ⟨as, r1⟩ := Dp.reads I d x v hd rx
  obtain ⟨bs, r2⟩ := Dp.reads I e y u he ry
  have := shaped_depth sd
  exact PySem.W.ge_data r1 r2 al nn (by omega) ⟨.bl _, H, I, rfl, q⟩
theorem cmp_rep {K : PySem.W.Frag} {H G : Hp} {x y : V} {dx dy : D} (sg : Sub G H) (hc : D.cmpb dx dy = true) (rx : RepC K H G dx x) (ry : RepC K H G dy y) :
    Dp K H x dx.py ∧ Dp K H y dy.py ∧ SeqAt.shaped dx.py = true ∧ SeqAt.shaped dy.py = true ∧ PySem.W.alike dx.py dy.py = true ∧ dx.py ≠ .none := by
  unfold D.cmpb at hc
  simp only [Bool.and_eq_true] at hc
  obtain ⟨⟨⟨h1, h2⟩, h3⟩, h4⟩ := hc
  refine ⟨Rep.dp dx 60 x h1 (rx.all sg (pl_nd h1)), Rep.dp dy 60 y h2 (ry.all sg (pl_nd h2)), shaped_py h1 (by decide), shaped_py h2 (by decide), h3, ?_⟩
  cases dx with
  | non => cases h4
  | obj _ => simp [D.pl] at h1
  | dct _ _ => simp [D.pl] at h1
  | _ => simp [D.py]
theorem od_cmp {op : CmpOp} {g : D → D → Res D} {gi : Int → Int → Bool} {f : D → D → Bool} {fp : PyData → PyData → Bool} (o1 : OpR X (compareOp op) (rI0 fun i j => .bl (gi i j))) (o2 : OpR X (compareOp op) (rCmpD X.K fp)) (hf : ∀ x y, f x y = fp x.py y.py)
    (hg : ∀ x y, (∃ i j, x = .int i ∧ y = .int j ∧ g x y = .ok (.bl (gi i j))) ∨ g x y = cmpD f x y) : OpD X W (compareOp op) g := by
  refine ⟨_, OpR.or o1 o2, fun σ H G x y dx dy Q sg rx ry p => ?_⟩
  rcases hg dx dy with ⟨i, j, e1, e2, e3⟩ | e
  · subst e1 e2
    rw [e3] at p
    exact .inl ⟨i, j, rx, ry, PostG.val (d := .bl (gi i j)) p sg rfl⟩
  · rw [e] at p
    unfold cmpD at p
    by_cases hc : D.cmpb dx dy = true
    · rw [if_pos hc] at p
      obtain ⟨a1, a2, a3, a4, a5, a6⟩ := cmp_rep sg hc rx ry
      refine .inr ⟨_, _, a1, a2, a3, a4, a5, a6, ?_⟩
      rw [← hf]
      exact p.here sg _ rfl
    · rw [if_neg hc] at p; exact p.elim
theorem od_lt (hu : X.A.units + 64 < cLine) : OpD X W (compareOp .Lt) dLt := od_cmp op_lt (op_ltD hu) (fun _ _ => rfl) fun x y => by
  cases x <;> cases y <;> first
    | exact .inl ⟨_, _, rfl, rfl, rfl⟩
    | exact .inr rfl
theorem od_le (hu : X.A.units + 64 < cLine) : OpD X W (compareOp .LtE) dLe := od_cmp op_le (op_leD hu) (fun _ _ => rfl) fun x y => by
  cases x <;> cases y <;> first
    | exact .inl ⟨_, _, rfl, rfl, rfl⟩
    | exact .inr rfl
theorem od_gt (hu : X.A.units + 64 < cLine) : OpD X W (compareOp .Gt) dGt := od_cmp op_gt (op_gtD hu) (fun _ _ => rfl) fun x y => by
  cases x <;> cases y <;> first
    | exact .inl ⟨_, _, rfl, rfl, rfl⟩
    | exact .inr rfl
theorem od_ge (hu : X.A.units + 64 < cLine) : OpD X W (compareOp .GtE) dGe := od_cmp op_ge (op_geD hu) (fun _ _ => rfl) fun x y => by
  cases x <;> cases y <;> first
    | exact .inl ⟨_, _, rfl, rfl, rfl⟩
    | exact .inr rfl
end
end DL

namespace DL
open PySem PySem.Spec PyProof.Rows L2
open PySem.Builtin.Int (intBits)

/-! ### tests -/
def D.asB : D → Res Bool
  | .bl b => .ok b
  | _ => .bad
/-- a value's truth -/
def D.truth : D → Res Bool
  | .non => .ok false
  | .bl b => .ok b
  | .int i => .ok (i != 0)
  | .str x => if x.length ≤ sizeLine then .ok ((x.length : Int) != 0) else .bad
  | .lst xs => .ok (!xs.isEmpty)
  | .tup xs => .ok (!xs.isEmpty)
  | _ => .bad
def bTest (g : D → D → Res D) (fa fb : Env → Res D) : Env → Res Bool := fun e => (fa e).bind fun x => (fb e).bind fun y => (g x y).bind D.asB
def bTruth (f : Env → Res D) : Env → Res Bool := fun e => (f e).bind D.truth
def bAnd (fa fb : Env → Res Bool) : Env → Res Bool := fun e => (fa e).bind fun b => if b = true then fb e else .ok false
def bOr (fa fb : Env → Res Bool) : Env → Res Bool := fun e => (fa e).bind fun b => if b = true then .ok true else fb e
def bNot (fa : Env → Res Bool) : Env → Res Bool := fun e => (fa e).bind fun b => .ok (!b)
section
variable {X : Cx} {W : WX} {A : Nat → Prop} {a b : Expr} {rest : List Expr} {pos : Pos}
theorem dt_cmp {op : CmpOp} {fa fb : Env → Res D} {g : D → D → Res D} (ho : OpD X W (compareOp op) g) (ha : DR X W A a fa) (hb : DR X W A b fb) (hm : behindInMarks op b = false) : DT X W A (.Compare a [op] [b] pos) (bTest g fa fb) := by
  obtain ⟨r, h1, h2⟩ := ho
  refine (pt_cmpR h1 ha hb hm).imp fun σ H Q ⟨e, G, E, p⟩ => ?_
  refine ⟨e, G, E, p.split.imp fun dx H1 G1 x1 p1 v rv => ⟨e, G1, E.ext x1, p1.split.imp fun dy H2 G2 x2 p2 u ru => ?_⟩⟩
  refine h2 σ H2 G2 v u dx dy _ x2.gh (rv.mono x2.hh x2.gg) ru (p2.split.imp fun d H3 G3 x3 p3 z rz => ?_)
  cases d with
  | bl k => exact ⟨k, rz, p3.here x3.gh⟩
  | _ => exact (show False from p3).elim
theorem truth_v {K : PySem.W.Frag} {H G : Hp} {d : D} {v : V} {k : Bool} (g : Sub G H) (r : RepC K H G d v) (h : d.truth = .ok k) : TruV K v H k := by
  cases d with
  | non => have : v = .non := r; subst this; cases h; rfl
  | bl b => have : v = .bl b := r; subst this; cases h; rfl
  | int i => have : v = .int i := r; subst this; cases h; rfl
  | str x =>
    have : v = .str x := r
    subst this
    dsimp only [D.truth] at h
    by_cases hc : x.length ≤ sizeLine
    · rw [if_pos hc] at h; cases h; exact ⟨hc, rfl⟩
    · rw [if_neg hc] at h; cases h
  | lst xs =>
    obtain ⟨p, vs, e, s, q⟩ := r
    subst e
    cases h
    refine .inl ⟨vs, s, ?_⟩
    have := q.length
    cases vs <;> cases xs <;> simp at this ⊢
  | tup xs =>
    obtain ⟨p, vs, e, s, q⟩ := (show Rep K G (.tup xs) v from r)
    subst e
    cases h
    refine .inr (.inl ⟨vs, g.pt s, ?_⟩)
    have := q.length
    cases vs <;> cases xs <;> simp at this ⊢
  | obj _ => cases h
  | con _ => cases h
  | dct _ _ => cases h
theorem dt_truth {f : Env → Res D} (ha : DR X W A a f) (he : ∀ whole, isTrue a X.env whole = (do let v ← whole; standAt a.pos; holding [v] (truthy v))) : DT X W A a (bTruth f) :=
  (pt_truth ha he).imp fun σ H Q ⟨e, G, E, p⟩ => ⟨e, G, E, p.split.imp fun d H1 G1 x1 p1 v rv => by
    cases ht : d.truth with
    | ok k => rw [ht] at p1; exact ⟨k, truth_v x1.gh rv ht, p1.here x1.gh⟩
    | exc c fs => exact absurd ht (by cases d <;> simp [D.truth] <;> split <;> simp)
    | bad => rw [ht] at p1; exact p1.elim⟩
theorem dw_and1 {fa : Env → Res Bool} (ha : DT X W A a fa) : DW X W A (.BoolOp .And [a] pos) fa := pw_and1 ha
theorem dw_or1 {fa : Env → Res Bool} (ha : DT X W A a fa) : DW X W A (.BoolOp .Or [a] pos) fa := pw_or1 ha
theorem dw_and {fa fb : Env → Res Bool} (ha : DT X W A a fa) (hb : DW X W A (.BoolOp .And (b :: rest) pos) fb) : DW X W A (.BoolOp .And (a :: b :: rest) pos) (bAnd fa fb) :=
  (pw_and ha hb).imp fun σ H Q ⟨e, G, E, p⟩ => ⟨e, G, E, p.split.imp fun k H1 G1 x1 p1 => by
    cases k with
    | true => rw [if_pos rfl] at p1 ⊢; exact ⟨e, G1, E.ext x1, p1⟩
    | false => rw [if_neg Bool.false_ne_true] at p1 ⊢; exact p1.here x1.gh⟩
theorem dw_or {fa fb : Env → Res Bool} (ha : DT X W A a fa) (hb : DW X W A (.BoolOp .Or (b :: rest) pos) fb) : DW X W A (.BoolOp .Or (a :: b :: rest) pos) (bOr fa fb) :=
  (pw_or ha hb).imp fun σ H Q ⟨e, G, E, p⟩ => ⟨e, G, E, p.split.imp fun k H1 G1 x1 p1 => by
    cases k with
    | true => rw [if_pos rfl] at p1 ⊢; exact p1.here x1.gh
    | false => rw [if_neg Bool.false_ne_true] at p1 ⊢; exact ⟨e, G1, E.ext x1, p1⟩⟩
theorem dt_w {f : Env → Res Bool} (h : DW X W A a f) : DT X W A a f := h.pt
theorem dt_not {fa : Env → Res Bool} (ha : DT X W A a fa) : DT X W A (.UnaryOp .Not a pos) (bNot fa) :=
  (pt_not ha).imp fun σ H Q ⟨e, G, E, p⟩ => ⟨e, G, E, p.split.imp fun k H1 G1 x1 p1 => p1.here x1.gh⟩

/-! ### and, or, not, if-else as values -/
def eAnd (fa fb : Env → Res D) : Env → Res D := fun e => (fa e).bind fun x => (D.asB x).bind fun b => if b = true then fb e else .ok (.bl false)
def eOr (fa fb : Env → Res D) : Env → Res D := fun e => (fa e).bind fun x => (D.asB x).bind fun b => if b = true then .ok (.bl true) else fb e
def eNot (fa : Env → Res D) : Env → Res D := fun e => (fa e).bind fun x => (D.asB x).bind fun b => .ok (.bl (!b))
def eNeg (fa : Env → Res D) : Env → Res D := fun e => (fa e).bind fun x => match x with
  | .int i => .ok (.int (-i))
  | _ => .bad
def eIf (ft : Env → Res Bool) (fa fb : Env → Res D) : Env → Res D := fun e => (ft e).bind fun b => if b = true then fa e else fb e
theorem asB_of {K : PySem.W.Frag} {mg : Str → Option Value} {W : Value → Option Addr → Hp → Prop} {H G : Hp} {d : D} {α : Type} {f : Bool → Res α} {R : α → Hp → Hp → Prop} (p : PostG K mg W H G ((D.asB d).bind f) R) : ∃ b, d = .bl b ∧ PostG K mg W H G (f b) R := by
  cases d with
  | bl b => exact ⟨b, rfl, p⟩
  | _ => exact (show False from p).elim
theorem de_one {op} {f : Env → Res D} (h : DE X W A a f) : DE X W A (.BoolOp op [a] pos) f := pe_one h
theorem de_and {fa fb : Env → Res D} (ha : DE X W A a fa) (hb : DE X W A (.BoolOp .And (b :: rest) pos) fb) : DE X W A (.BoolOp .And (a :: b :: rest) pos) (eAnd fa fb) :=
  (pe_and ha hb).imp fun σ H Q ⟨e, G, E, p⟩ => ⟨e, G, E, p.split.imp fun x H1 G1 x1 p1 v rv => by
    obtain ⟨k, rfl, p2⟩ := asB_of p1
    refine ⟨k, rv, ?_⟩
    cases k with
    | true => rw [if_pos rfl] at p2 ⊢; exact ⟨e, G1, E.ext x1, p2⟩
    | false => rw [if_neg Bool.false_ne_true] at p2 ⊢; exact p2.val x1.gh rfl⟩
theorem de_or {fa fb : Env → Res D} (ha : DE X W A a fa) (hb : DE X W A (.BoolOp .Or (b :: rest) pos) fb) : DE X W A (.BoolOp .Or (a :: b :: rest) pos) (eOr fa fb) :=
  (pe_or ha hb).imp fun σ H Q ⟨e, G, E, p⟩ => ⟨e, G, E, p.split.imp fun x H1 G1 x1 p1 v rv => by
    obtain ⟨k, rfl, p2⟩ := asB_of p1
    refine ⟨k, rv, ?_⟩
    cases k with
    | true => rw [if_pos rfl] at p2 ⊢; exact p2.val x1.gh rfl
    | false => rw [if_neg Bool.false_ne_true] at p2 ⊢; exact ⟨e, G1, E.ext x1, p2⟩⟩
theorem de_not {fa : Env → Res D} (ha : DE X W A a fa) : DE X W A (.UnaryOp .Not a pos) (eNot fa) :=
  (pe_not ha).imp fun σ H Q ⟨e, G, E, p⟩ => ⟨e, G, E, p.split.imp fun x H1 G1 x1 p1 v rv => by
    obtain ⟨k, rfl, p2⟩ := asB_of p1
    exact ⟨k, rv, p2.val x1.gh rfl⟩⟩
theorem de_neg {fa : Env → Res D} (ha : DE X W A a fa) : DE X W A (.UnaryOp .USub a pos) (eNeg fa) :=
  (pe_un un_neg ha).imp fun σ H Q ⟨e, G, E, p⟩ => ⟨e, G, E, p.split.imp fun x H1 G1 x1 p1 v rv => by
    cases x with
    | int i => exact ⟨i, rv, PostG.val (d := .int (-i)) p1 x1.gh rfl⟩
    | _ => exact (show False from p1).elim⟩
def bVal (f : Env → Res D) : Env → Res Bool := fun e => (f e).bind D.asB
/-! ### argument lists, displays -/
def aNil : Env → Res (List D) := fun _ => .ok []
def aCons (f : Env → Res D) (fs : Env → Res (List D)) : Env → Res (List D) := fun e => (f e).bind fun d => (fs e).bind fun ds => .ok (d :: ds)
theorem da_nil : DA X W A [] aNil := pa_nil.imp fun σ H Q ⟨e, G, E, p⟩ => p.here E.sub [] rfl
theorem da_cons {es : List Expr} {f : Env → Res D} {fs : Env → Res (List D)} (ha : DE X W A a f) (hr : DA X W A es fs) (hs : starEach (a :: es) X.env = (false, eval a X.env) :: starEach es X.env := by rfl) : DA X W A (a :: es) (aCons f fs) :=
  (pa_cons ha hr hs).imp fun σ H Q ⟨e, G, E, p⟩ => ⟨e, G, E, p.split.imp fun d H1 G1 x1 p1 v rv => ⟨e, G1, E.ext x1, p1.split.imp fun ds H2 G2 x2 p2 vs rs => p2.here x2.gh (v :: vs) (.cons (rv.mono x2.gg) rs)⟩⟩
def eTup (fs : Env → Res (List D)) : Env → Res D := fun e => (fs e).bind fun ds => .ok (.tup ds)
def eLst (fs : Env → Res (List D)) : Env → Res D := fun e => (fs e).bind fun ds => .ok (.lst ds)
/-- how long such a list is -/
def LenIs (fs : Env → Res (List D)) (n : Nat) : Prop := ∀ e ds, fs e = .ok ds → ds.length ≤ n
theorem len_nil : LenIs aNil 0 := fun e ds h => by cases h; exact Nat.le_refl _
theorem len_cons {f : Env → Res D} {fs : Env → Res (List D)} {n : Nat} (h : LenIs fs n) : LenIs (aCons f fs) (n + 1) := fun e ds q => by
  unfold aCons at q
  cases hf : f e with
  | ok d =>
    rw [hf] at q
    cases hs : fs e with
    | ok es => rw [hs] at q; cases q; exact Nat.succ_le_succ (h e es hs)
    | exc c x => rw [hs] at q; cases q
    | bad => rw [hs] at q; cases q
  | exc c x => rw [hf] at q; cases q
  | bad => rw [hf] at q; cases q
theorem PostG.ifok {K : PySem.W.Frag} {mg : Str → Option Value} {W : Value → Option Addr → Hp → Prop} {H G : Hp} {α : Type} {r : Res α} {R R' : α → Hp → Hp → Prop} (h : PostG K mg W H G r R) (f : ∀ a H' G', r = .ok a → Ext H G H' G' → R a H' G' → R' a H' G') : PostG K mg W H G r R' := by
  cases r with
  | ok a => exact fun H2 G2 y => f a H2 G2 rfl y (h H2 G2 y)
  | exc c fs => exact h
  | bad => exact h
theorem de_tup {es : List Expr} {x1} {fs : Env → Res (List D)} {n : Nat} (h : DA X W A es fs) (hl : LenIs fs n) (hn : n ≤ sizeLine) : DE X W A (.Tuple es x1 pos) (eTup fs) :=
  (pe_tup h).imp fun σ H Q ⟨e, G, E, p⟩ => ⟨e, G, E, p.split.ifok fun ds H1 G1 hk x1 p1 vs rs => ⟨by rw [rs.length]; exact Nat.le_trans (hl e ds hk) hn, fun q hq =>
    p1 _ _ (Ext.laid x1.gh hq) _ ⟨q, vs, rfl, upd_same, rs.mono (Sub.upd (x1.gh.free hq))⟩⟩⟩
theorem df_lst {es : List Expr} {fs : Env → Res (List D)} {n : Nat} (h : DA X W A es fs) (hl : LenIs fs n) (hn : n ≤ sizeLine) : DF X W A (.List es pos) (eLst fs) :=
  (pe_lst h).imp fun σ H Q ⟨e, G, E, p⟩ => ⟨e, G, E, p.split.ifok fun ds H1 G1 hk x1 p1 vs rs => ⟨by rw [rs.length]; exact Nat.le_trans (hl e ds hk) hn, fun q hq =>
    p1 (upd H1 q (.lst vs)) G1 ⟨Sub.upd hq, Sub.refl _, x1.gh.trans (Sub.upd hq), fun b z => .inl z⟩ q (x1.hh.free hq) (x1.gh.free hq) ⟨vs, upd_same, rs⟩⟩⟩

/-! ### subscripts -/
def dIx : D → D → Res D
  | .con xs, .int i => match atI xs i with
    | some d => .ok d
    | none => .bad
  | .tup xs, .int i => match atI xs i with
    | some d => .ok d
    | none => .bad
  | .lst xs, .int i => match atI xs i with
    | some d => .ok d
    | none => .bad
  | .str x, .int i => if x.length ≤ sizeLine then (match atI x.cps.toList i with
    | some c => .ok (.str ⟨#[c]⟩)
    | none => .bad) else .bad
  | _, _ => .bad
theorem atI_rep {K : PySem.W.Frag} {G : Hp} {ds : List D} {vs : List V} {i : Int} {d : D} (r : RepL K G ds vs) (h : atI ds i = some d) : ∃ v, atI vs i = some v ∧ Rep K G d v := by
  unfold atI at h ⊢
  rw [r.length]
  cases e : ixN ds.length i with
  | none => rw [e] at h; cases h
  | some j =>
    rw [e] at h
    have h' : ds[j]? = some d := h
    obtain ⟨v, h1, h2⟩ := r.get h'
    exact ⟨v, h1, h2⟩
theorem de_ix {fa fb : Env → Res D} (ha : DR X W A a fa) (hb : DR X W A b fb) (hs : PlainIx b) : DE X W A (.Subscript a b pos) (eOp dIx fa fb) := by
  refine (pe_ix (IxR.or ix_list (IxR.or ix_tup ix_str)) ha hb hs).imp (op_two rfl rfl fun σ H G x y dx dy Q sg rx ry p => ?_)
  cases dx with
  | tup ds =>
    cases dy with
    | int i =>
      obtain ⟨q, vs, e, s, r⟩ := (show Rep X.K G (.tup ds) x from rx)
      dsimp only [dIx] at p
      cases ha : atI ds i with
      | none => rw [ha] at p; exact p.elim
      | some d =>
        rw [ha] at p
        obtain ⟨v, h1, h2⟩ := atI_rep r ha
        exact .inr (.inl ⟨q, vs, i, v, e, ry, sg.pt s, h1, p.val sg h2⟩)
    | _ => exact (show False from p).elim
  | con ds =>
    cases dy with
    | int i =>
      obtain ⟨q, vs, e, s, r⟩ := (show Rep X.K G (.con ds) x from rx)
      dsimp only [dIx] at p
      cases ha : atI ds i with
      | none => rw [ha] at p; exact p.elim
      | some d =>
        rw [ha] at p
        obtain ⟨v, h1, h2⟩ := atI_rep r ha
        exact .inr (.inl ⟨q, vs, i, v, e, ry, sg.sqt s, h1, p.val sg h2⟩)
    | _ => exact (show False from p).elim
  | lst ds =>
    cases dy with
    | int i =>
      obtain ⟨q, vs, e, s, r⟩ := rx
      dsimp only [dIx] at p
      cases ha : atI ds i with
      | none => rw [ha] at p; exact p.elim
      | some d =>
        rw [ha] at p
        obtain ⟨v, h1, h2⟩ := atI_rep r ha
        exact .inl ⟨q, vs, i, v, e, ry, s, h1, p.val sg h2⟩
    | _ => exact (show False from p).elim
  | str z =>
    cases dy with
    | int i =>
      dsimp only [dIx] at p
      by_cases hz : z.length ≤ sizeLine
      · rw [if_pos hz] at p
        cases ha : atI z.cps.toList i with
        | none => rw [ha] at p; exact p.elim
        | some c =>
          rw [ha] at p
          exact .inr (.inr ⟨z, i, c, rx, ry, hz, ha, p.val sg rfl⟩)
      · rw [if_neg hz] at p; exact p.elim
    | _ => exact (show False from p).elim
  | _ => exact (show False from p).elim
end
end DL

namespace DL
open PySem PySem.Spec PyProof.Rows L2
open PySem.Builtin.Int (intBits)

/-! ### slices -/
def tO (K : PySem.W.Frag) (mg : Str → Option Value) (W : WX) (A : Nat → Prop) (f : Env → Res (Option Int)) : TO := fun σ H Q => ∃ e G, EnvG K A σ e H G ∧ PostG K mg (fun c o H' => W c o σ H') H G (f e) fun b H' G' => Q b H'
abbrev DO (X : Cx) (W : WX) (A : Nat → Prop) (ex : Option Expr) (f : Env → Res (Option Int)) : Prop := PO X ex (tO X.K X.mg W A f)
theorem _root_.L2.PO.imp {X : Cx} {e : Option Expr} {t t' : TO} (h : PO X e t) (f : ∀ σ H Q, t' σ H Q → t σ H Q) : PO X e t' := ⟨fun pins s σ H Q I q => h.run pins s σ H Q I (f σ H Q q)⟩
def oNone : Env → Res (Option Int) := fun _ => .ok none
def oSome (f : Env → Res D) : Env → Res (Option Int) := fun e => (f e).bind fun d => match d with
  | .int i => .ok (some i)
  | _ => .bad
def cutL {α : Type} (xs : List α) (lo hi : Option Int) : List α := (xs.drop (HT.sIx xs.length 0 lo)).take (HT.sIx xs.length xs.length hi - HT.sIx xs.length 0 lo)
def dCut (lo hi : Option Int) : D → Res D
  | .tup xs => .ok (.tup (cutL xs lo hi))
  | .lst xs => .ok (.lst (cutL xs lo hi))
  | .str x => if x.length ≤ sizeLine then .ok (.str (cutS x lo hi)) else .bad
  | _ => .bad
def eCut (f : Env → Res D) (fl fh : Env → Res (Option Int)) : Env → Res D := fun e => (f e).bind fun d => (fl e).bind fun lo => (fh e).bind fun hi => dCut lo hi d
theorem cutL_all {α : Type} {xs : List α} {lo hi : Option Int} (h : HT.sIx xs.length 0 lo = 0 ∧ HT.sIx xs.length xs.length hi = xs.length) : cutL xs lo hi = xs := by
  unfold cutL
  rw [h.1, h.2]
  simp
theorem RepL.cut {K : PySem.W.Frag} {G : Hp} {ds : List D} {vs : List V} (lo hi : Option Int) (h : RepL K G ds vs) : RepL K G (cutL ds lo hi) (cutV vs lo hi) := by
  unfold cutL cutV
  rw [h.length]
  exact (h.drop _).take _
section
variable {X : Cx} {W : WX} {A : Nat → Prop} {a b : Expr} {lo hi : Option Expr} {rest : List Expr} {pos p2 : Pos}
theorem do_none : DO X W A none oNone := po_none.imp fun σ H Q ⟨e, G, E, p⟩ => p.here E.sub
theorem do_some {f : Env → Res D} (h : DE X W A a f) : DO X W A (some a) (oSome f) :=
  (po_some h).imp fun σ H Q ⟨e, G, E, p⟩ => ⟨e, G, E, p.split.imp fun d H1 G1 x1 p1 v rv => by
    cases d with
    | int i => exact ⟨i, rv, p1.here x1.gh⟩
    | _ => exact (show False from p1).elim⟩
theorem de_cut {f : Env → Res D} {fl fh : Env → Res (Option Int)} (ha : DR X W A a f) (hl : DO X W A lo fl) (hh : DO X W A hi fh) : DE X W A (.Subscript a (.Slice lo hi none p2) pos) (eCut f fl fh) := by
  refine (pe_slice (SlR.or sl_tupA (SlR.or sl_list sl_str)) ha hl hh).imp fun σ H Q ⟨e, G, E, p⟩ => ?_
  refine ⟨e, G, E, p.split.imp fun d H1 G1 x1 p1 v rv => ⟨e, G1, E.ext x1, p1.split.imp fun l H2 G2 x2 p2 => ⟨e, G2, (E.ext x1).ext x2, p2.split.imp fun u H3 G3 x3 p3 => ?_⟩⟩⟩
  have rv := (rv.mono x2.hh x2.gg).mono x3.hh x3.gg
  have sg := x3.gh
  cases d with
  | tup ds =>
    obtain ⟨q, vs, eq, s, r⟩ := (show Rep X.K G3 (.tup ds) v from rv)
    refine .inl ⟨q, vs, eq, sg.pt s, fun hw => ?_, fun hw q2 hq => ?_⟩
    · refine PostG.val (d := .tup (cutL ds l u)) p3 sg ⟨q, vs, rfl, s, ?_⟩
      rw [r.length] at hw
      rw [cutL_all hw]
      exact r
    · exact (show PostG X.K X.mg _ H3 G3 (Res.ok (D.tup (cutL ds l u))) _ from p3) _ _ (Ext.laid sg hq) _ ⟨q2, _, rfl, upd_same, (r.cut l u).mono (Sub.upd (sg.free hq))⟩
  | lst ds =>
    obtain ⟨q, vs, eq, s, r⟩ := rv
    refine .inr (.inl ⟨q, vs, eq, s, fun q2 hq => ?_⟩)
    exact (show PostG X.K X.mg _ H3 G3 (Res.ok (D.lst (cutL ds l u))) _ from p3) _ _ (Ext.laid sg hq) _ ⟨q2, _, rfl, SqL.of upd_same, (r.cut l u).mono (Sub.upd (sg.free hq))⟩
  | str z =>
    dsimp only [dCut] at p3
    by_cases hz : z.length ≤ sizeLine
    · rw [if_pos hz] at p3
      exact .inr (.inr ⟨z, rv, hz, p3.val sg rfl⟩)
    · rw [if_neg hz] at p3; exact p3.elim
  | _ => exact (show False from p3).elim
end

/-! ### calls of built-ins -/
def e1 (g : D → Res D) (f : Env → Res D) : Env → Res D := fun e => (f e).bind g
/-- a call of one value: what it does on data -/
def Call1 (X : Cx) (W : WX) (f : Value) (g : D → Res D) : Prop :=
  ∃ r, CallR X f r ∧ ∀ (σ : L2.St) (H G : Hp) (x : V) (dx : D) (Q : VK), Sub G H → RepC X.K H G dx x →
    PostG X.K X.mg (fun c o H' => W c o σ H') H G (g dx) (fun d H' G' => ∀ v, Rep X.K G' d v → Q v H') → r [x] H Q
def Call2 (X : Cx) (W : WX) (f : Value) (g : D → D → Res D) : Prop :=
  ∃ r, CallR X f r ∧ ∀ (σ : L2.St) (H G : Hp) (x y : V) (dx dy : D) (Q : VK), Sub G H → RepC X.K H G dx x → RepC X.K H G dy y →
    PostG X.K X.mg (fun c o H' => W c o σ H') H G (g dx dy) (fun d H' G' => ∀ v, Rep X.K G' d v → Q v H') → r [x, y] H Q
/-- .. that makes a new list or dict -/
def Call1F (X : Cx) (W : WX) (f : Value) (g : D → Res D) : Prop :=
  ∃ r, CallR X f r ∧ ∀ (σ : L2.St) (H G : Hp) (x : V) (dx : D) (Q : VK), Sub G H → RepC X.K H G dx x →
    PostG X.K X.mg (fun c o H' => W c o σ H') H G (g dx) (fun d H' G' => ∀ a, H a = none → G' a = none → OwnC X.K H' G' d a → Q (.ref a) H') → r [x] H Q
section
variable {X : Cx} {W : WX} {A : Nat → Prop} {a b : Expr} {rest : List Expr} {x : Str} {p pos : Pos} {id T : String}
theorem de_b1 {g : D → Res D} {f : Env → Res D} (hc : Call1 X W (.builtin id) g) (hg : Gl X x) (hm : X.mg x = none) (hv : bootBuiltins x = some (.builtin id)) (ha : DR X W A a f) (hn : x ≠ "__name__" := by decide) (hdb : (x == ("__debug__" : Str)) = false := by decide)
    (he : starEach (a :: []) X.env = (false, eval a X.env) :: starEach [] X.env := by rfl) (hpl : (backTo pos (starEach [] X.env)).any (·.1) = false := by rfl) : DE X W A (.Call (.Name x p) [a] [] pos) (e1 g f) := by
  obtain ⟨r, h1, h2⟩ := hc
  exact (pe_callB h1 hg hm hv (pa_cons ha pa_nil he) hn hdb he hpl).imp fun σ H Q ⟨e, G, E, p⟩ => ⟨e, G, E, p.split.imp fun d H1 G1 x1 p1 v rv => h2 σ H1 G1 v d Q x1.gh rv p1⟩
theorem de_t1 {g : D → Res D} {f : Env → Res D} (hc : Call1 X W (.type T) g) (hg : Gl X x) (hm : X.mg x = none) (hv : bootBuiltins x = some (.type T)) (ha : DR X W A a f) (hn : x ≠ "__name__" := by decide) (hdb : (x == ("__debug__" : Str)) = false := by decide)
    (he : starEach (a :: []) X.env = (false, eval a X.env) :: starEach [] X.env := by rfl) (hpl : (backTo pos (starEach [] X.env)).any (·.1) = false := by rfl) : DE X W A (.Call (.Name x p) [a] [] pos) (e1 g f) := by
  obtain ⟨r, h1, h2⟩ := hc
  exact (pe_callTy h1 hg hm hv (pa_cons ha pa_nil he) hn hdb he hpl).imp fun σ H Q ⟨e, G, E, p⟩ => ⟨e, G, E, p.split.imp fun d H1 G1 x1 p1 v rv => h2 σ H1 G1 v d Q x1.gh rv p1⟩
theorem df_b1 {g : D → Res D} {f : Env → Res D} (hc : Call1F X W (.builtin id) g) (hg : Gl X x) (hm : X.mg x = none) (hv : bootBuiltins x = some (.builtin id)) (ha : DR X W A a f) (hn : x ≠ "__name__" := by decide) (hdb : (x == ("__debug__" : Str)) = false := by decide)
    (he : starEach (a :: []) X.env = (false, eval a X.env) :: starEach [] X.env := by rfl) (hpl : (backTo pos (starEach [] X.env)).any (·.1) = false := by rfl) : DF X W A (.Call (.Name x p) [a] [] pos) (e1 g f) := by
  obtain ⟨r, h1, h2⟩ := hc
  exact (pe_callB h1 hg hm hv (pa_cons ha pa_nil he) hn hdb he hpl).imp fun σ H Q ⟨e, G, E, p⟩ => ⟨e, G, E, p.split.imp fun d H1 G1 x1 p1 v rv => h2 σ H1 G1 v d Q x1.gh rv (p1.imp fun z H2 G2 x2 q c hc => q c (x1.hh.free hc))⟩
theorem df_t1 {g : D → Res D} {f : Env → Res D} (hc : Call1F X W (.type T) g) (hg : Gl X x) (hm : X.mg x = none) (hv : bootBuiltins x = some (.type T)) (ha : DR X W A a f) (hn : x ≠ "__name__" := by decide) (hdb : (x == ("__debug__" : Str)) = false := by decide)
    (he : starEach (a :: []) X.env = (false, eval a X.env) :: starEach [] X.env := by rfl) (hpl : (backTo pos (starEach [] X.env)).any (·.1) = false := by rfl) : DF X W A (.Call (.Name x p) [a] [] pos) (e1 g f) := by
  obtain ⟨r, h1, h2⟩ := hc
  exact (pe_callTy h1 hg hm hv (pa_cons ha pa_nil he) hn hdb he hpl).imp fun σ H Q ⟨e, G, E, p⟩ => ⟨e, G, E, p.split.imp fun d H1 G1 x1 p1 v rv => h2 σ H1 G1 v d Q x1.gh rv (p1.imp fun z H2 G2 x2 q c hc => q c (x1.hh.free hc))⟩
theorem de_b2 {g : D → D → Res D} {fa fb : Env → Res D} (hc : Call2 X W (.builtin id) g) (hg : Gl X x) (hm : X.mg x = none) (hv : bootBuiltins x = some (.builtin id)) (ha : DR X W A a fa) (hb : DR X W A b fb) (hn : x ≠ "__name__" := by decide) (hdb : (x == ("__debug__" : Str)) = false := by decide)
    (he : starEach (a :: [b]) X.env = (false, eval a X.env) :: starEach [b] X.env := by rfl) (he2 : starEach (b :: []) X.env = (false, eval b X.env) :: starEach [] X.env := by rfl) (hpl : (backTo pos (starEach [b] X.env)).any (·.1) = false := by rfl) : DE X W A (.Call (.Name x p) [a, b] [] pos) (eOp g fa fb) := by
  obtain ⟨r, h1, h2⟩ := hc
  refine (pe_callB h1 hg hm hv (pa_cons ha (pa_cons hb pa_nil he2) he) hn hdb he hpl).imp fun σ H Q ⟨e, G, E, p⟩ => ?_
  refine ⟨e, G, E, p.split.imp fun d H1 G1 x1 p1 v rv => ⟨e, G1, E.ext x1, p1.split.imp fun d2 H2 G2 x2 p2 u ru => h2 σ H2 G2 v u d d2 Q x2.gh (rv.mono x2.hh x2.gg) ru p2⟩⟩

/-! len, abs, max, min, int, list, tuple, sum .. -/
def rLenD : List V → Hp → VK → Prop := fun xs H Q => ∃ a n, xs = [V.ref a] ∧ ((∃ kvs, Rd H a (.dK kvs) ∧ n = kvs.length) ∨ ∃ kvs, Rd H a (.dT kvs) ∧ n = kvs.length) ∧ Q (.int ((n : Nat) : Int)) H
theorem cr_lenD : CallR X (.builtin "len") rLenD := by
  intro pins s σ H xs us Q I r h
  obtain ⟨a, n, rfl, hd, q⟩ := h
  obtain ⟨u, rfl, rx⟩ := vals1 r
  obtain rfl : u = .ref a := rx
  rcases hd with ⟨kvs, hk, rfl⟩ | ⟨kvs, hk, rfl⟩
  · exact d_len I hk fun t s' I' => ⟨.int _, H, I', ⟨_, rfl⟩, q⟩
  · obtain ⟨z, hd, ys, rel, dd⟩ := dt_rd I.hok hk
    have hl : kvs.length = ys.length := Paired.length rel
    refine call_len_dictH hd dd (by rw [← hl]; rw [PySem.sizeLine_eq] at z; omega) ?_
    rw [← hl]
    exact ⟨.int ((kvs.length : Nat) : Int), H, I.tok _, ⟨_, rfl⟩, q⟩
def dLen : D → Res D
  | .lst xs => .ok (.int xs.length)
  | .tup xs => .ok (.int xs.length)
  | .con xs => .ok (.int xs.length)
  | .str x => if x.length ≤ sizeLine then .ok (.int x.length) else .bad
  | .dct _ kvs => .ok (.int kvs.length)
  | _ => .bad
theorem c1_len : Call1 X W (.builtin "len") dLen := by
  refine ⟨_, CallR.or call_len cr_lenD, fun σ H G x dx Q sg rx p => ?_⟩
  cases dx with
  | lst ds =>
    obtain ⟨q, vs, e, s, r⟩ := rx
    subst e
    refine .inl ⟨_, vs.length, rfl, .inl ⟨vs, s, rfl⟩, ?_⟩
    rw [r.length]
    exact PostG.val (d := .int ds.length) p sg rfl
  | tup ds =>
    obtain ⟨q, vs, e, s, r⟩ := (show Rep X.K G (.tup ds) x from rx)
    subst e
    refine .inl ⟨_, vs.length, rfl, .inr ⟨vs, sg.pt s, rfl⟩, ?_⟩
    rw [r.length]
    exact PostG.val (d := .int ds.length) p sg rfl
  | con ds =>
    obtain ⟨q, vs, e, s, r⟩ := (show Rep X.K G (.con ds) x from rx)
    subst e
    refine .inl ⟨_, vs.length, rfl, .inr ⟨vs, sg.sqt s, rfl⟩, ?_⟩
    rw [r.length]
    exact PostG.val (d := .int ds.length) p sg rfl
  | dct t kvs =>
    obtain ⟨a, e, h⟩ := rx
    subst e
    have p' : Q (.int ((kvs.length : Nat) : Int)) H := PostG.val (d := .int kvs.length) p sg rfl
    rcases h with ⟨_, ps, h1, h2, _⟩ | ⟨_, ps, h1, h2, _⟩
    · have hl := congrArg List.length h2
      rw [List.length_map, List.length_map] at hl
      exact .inr ⟨a, ps.length, rfl, .inl ⟨ps, h1, rfl⟩, by rw [← hl]; exact p'⟩
    · have hl := congrArg List.length h2
      rw [List.length_map, List.length_map] at hl
      exact .inr ⟨a, ps.length, rfl, .inr ⟨ps, h1, rfl⟩, by rw [← hl]; exact p'⟩
  | str z =>
    have : x = .str z := rx
    subst this
    dsimp only [dLen] at p
    by_cases hz : z.length ≤ sizeLine
    · rw [if_pos hz] at p
      exact .inl ⟨_, z.length, rfl, ⟨hz, rfl⟩, p.val sg rfl⟩
    · rw [if_neg hz] at p; exact p.elim
  | _ => exact (show False from p).elim
def dAbs : D → Res D
  | .int i => .ok (.int (if i < 0 then -i else i))
  | _ => .bad
def dInt : D → Res D
  | .int i => .ok (.int i)
  | .bl b => .ok (.int (if b = true then 1 else 0))
  | _ => .bad
theorem c1_int : Call1 X W (.type "int") dInt := by
  refine ⟨_, call_int1, fun σ H G x dx Q sg rx p => ?_⟩
  cases dx with
  | int i =>
    have : x = .int i := rx
    subst this
    exact .inl ⟨i, rfl, PostG.val (d := .int i) p sg rfl⟩
  | bl b =>
    have : x = .bl b := rx
    subst this
    exact .inr ⟨b, rfl, PostG.val (d := .int (if b = true then 1 else 0)) p sg rfl⟩
  | _ => exact (show False from p).elim
def dMax : D → D → Res D
  | .int i, .int j => .ok (.int (if j > i then j else i))
  | _, _ => .bad
def dMin : D → D → Res D
  | .int i, .int j => .ok (.int (if j < i then j else i))
  | _, _ => .bad
theorem c2_max (hc : X.calm = true) : Call2 X W (.builtin "max") dMax := by
  refine ⟨_, call_max2 hc, fun σ H G x y dx dy Q sg rx ry p => ?_⟩
  cases dx with
  | int i =>
    cases dy with
    | int j =>
      have h1 : x = .int i := rx
      have h2 : y = .int j := ry
      subst h1 h2
      exact ⟨i, j, rfl, PostG.val (d := .int (if j > i then j else i)) p sg rfl⟩
    | _ => exact (show False from p).elim
  | _ => exact (show False from p).elim
def dTuple : D → Res D
  | .lst xs => .ok (.tup xs)
  | .tup xs => .ok (.tup xs)
  | .con xs => .ok (.con xs)
  | _ => .bad
theorem c1_tuple : Call1 X W (.type "tuple") dTuple := by
  refine ⟨_, call_tuple_of, fun σ H G x dx Q sg rx p => ?_⟩
  cases dx with
  | lst ds =>
    obtain ⟨q, vs, e, s, r⟩ := rx
    subst e
    refine ⟨q, vs, rfl, .inl ⟨s, fun l hl => ?_⟩⟩
    exact (show PostG X.K X.mg _ H G (Res.ok (D.tup ds)) _ from p) _ _ (Ext.laid sg hl) _ ⟨l, vs, rfl, upd_same, r.mono (Sub.upd (sg.free hl))⟩
  | tup ds =>
    have rx : Rep X.K G (.tup ds) x := rx
    obtain ⟨q, vs, e, s, r⟩ := id rx
    subst e
    exact ⟨q, vs, rfl, .inr ⟨sg.pt s, PostG.val (d := .tup ds) p sg rx⟩⟩
  | con ds =>
    have rx : Rep X.K G (.con ds) x := rx
    obtain ⟨q, vs, e, s, r⟩ := id rx
    subst e
    exact ⟨q, vs, rfl, .inr ⟨sg.sqt s, PostG.val (d := .con ds) p sg rx⟩⟩
  | _ => exact (show False from p).elim
def dList : D → Res D
  | .lst xs => .ok (.lst xs)
  | .tup xs => .ok (.lst xs)
  | .con xs => .ok (.lst xs)
  | _ => .bad
theorem c1_list : Call1F X W (.type "list") dList := by
  refine ⟨_, call_list_of, fun σ H G x dx Q sg rx p => ?_⟩
  have fin : ∀ (ds : List D) (vs : List V), RepL X.K G ds vs → PostG X.K X.mg (fun c o H' => W c o σ H') H G (Res.ok (D.lst ds)) (fun d H' G' => ∀ a, H a = none → G' a = none → OwnC X.K H' G' d a → Q (.ref a) H') → ∀ l, H l = none → Q (.ref l) (upd H l (.lst vs)) :=
    fun ds vs r p l hl => p (upd H l (.lst vs)) G ⟨Sub.upd hl, Sub.refl _, sg.trans (Sub.upd hl), fun b z => .inl z⟩ l hl (sg.free hl) ⟨vs, upd_same, r⟩
  cases dx with
  | lst ds =>
    obtain ⟨q, vs, e, s, r⟩ := rx
    subst e
    exact ⟨q, vs, rfl, .inl s, fin ds vs r p⟩
  | tup ds =>
    obtain ⟨q, vs, e, s, r⟩ := (show Rep X.K G (.tup ds) x from rx)
    subst e
    exact ⟨q, vs, rfl, .inr (sg.pt s), fin ds vs r p⟩
  | con ds =>
    obtain ⟨q, vs, e, s, r⟩ := (show Rep X.K G (.con ds) x from rx)
    subst e
    exact ⟨q, vs, rfl, .inr (sg.sqt s), fin ds vs r p⟩
  | _ => exact (show False from p).elim
/-- the ints of a list of ints -/
def D.ints : List D → Option (List Int)
  | [] => some []
  | .int i :: r => (D.ints r).map fun ns => i :: ns
  | _ :: _ => none
@[simp] theorem ints_map : ∀ ns : List Int, D.ints (ns.map D.int) = some ns
  | [] => rfl
  | n :: r => by show (D.ints (r.map D.int)).map _ = _; rw [ints_map r]; rfl
def D.bls : List D → Option (List Bool)
  | [] => some []
  | .bl i :: r => (D.bls r).map fun ns => i :: ns
  | _ :: _ => none
@[simp] theorem bls_map : ∀ ns : List Bool, D.bls (ns.map D.bl) = some ns
  | [] => rfl
  | n :: r => by show (D.bls (r.map D.bl)).map _ = _; rw [bls_map r]; rfl
def dSum : D → Res D
  | .lst xs => match D.ints xs with
    | some ns => .ok (.int ns.sum)
    | none => .bad
  | _ => .bad
end
end DL

namespace DL
open PySem PySem.Spec PyProof.Rows L2
open PySem.Builtin.Int (intBits)

/-! ### statements -/
inductive Out where
  | nx (e : Env)
  | rt (d : D)
  | ro (d : D)
  | rm (d : D) (e : Env)
  | bk (e : Env)
  | ct (e : Env)
  | ex (c : String) (fs : List D) (e : Env)
  | bad

def unown (i : Nat) (e : Env) : Env := match e[i]? with
  | some (some (d, true)) => e.set i (some (d, false))
  | _ => e
/-- these names' lists and dicts are not changed any more -/
def fz : List Nat → Env → Env
  | [], e => e
  | i :: r, e => fz r (unown i e)
@[simp] theorem fz_nil (e : Env) : fz [] e = e := rfl
theorem unown_get (i : Nat) (e : Env) (j : Nat) : (unown i e)[j]? = if j = i then (match e[j]? with | some (some (d, _)) => some (some (d, false)) | z => z) else e[j]? := by
  unfold unown
  by_cases h : j = i
  · subst h
    rw [if_pos rfl]
    cases q : e[j]? with
    | none => simp only [q]
    | some s =>
      have hl : j < e.length := (List.getElem?_eq_some_iff.mp q).1
      cases s with
      | none => simp only [q]
      | some z =>
        obtain ⟨d, o⟩ := z
        cases o with
        | true => simp only []; rw [List.getElem?_set_self hl]
        | false => simp only [q]
  · rw [if_neg h]
    split
    · rw [List.getElem?_set_ne (Ne.symm h)]
    · rfl
theorem unown_length (i : Nat) (e : Env) : (unown i e).length = e.length := by
  unfold unown
  split
  · rw [List.length_set]
  · rfl
theorem fz_length : ∀ (al : List Nat) (e : Env), (fz al e).length = e.length
  | [], e => rfl
  | i :: r, e => by rw [fz, fz_length r, unown_length]
theorem fz_get : ∀ (al : List Nat) (e : Env) (j : Nat) (d : D) (o : Bool), (fz al e)[j]? = some (some (d, o)) → ∃ o', e[j]? = some (some (d, o')) ∧ ((o = o' ∧ (o' = true → j ∉ al)) ∨ (o = false ∧ o' = true ∧ j ∈ al))
  | [], e, j, d, o, h => ⟨o, h, .inl ⟨rfl, fun _ => by simp⟩⟩
  | i :: r, e, j, d, o, h => by
    obtain ⟨o1, h1, h2⟩ := fz_get r (unown i e) j d o h
    rw [unown_get] at h1
    by_cases hj : j = i
    · rw [if_pos hj] at h1
      cases q : e[j]? with
      | none => rw [q] at h1; cases h1
      | some s => cases s with
        | none => rw [q] at h1; cases h1
        | some z =>
          obtain ⟨d', o'⟩ := z
          rw [q] at h1
          cases h1
          rcases h2 with ⟨rfl, _⟩ | ⟨_, z, _⟩
          · cases o' with
            | true => exact ⟨true, rfl, .inr ⟨rfl, rfl, by simp [hj]⟩⟩
            | false => exact ⟨false, rfl, .inl ⟨rfl, fun z => by cases z⟩⟩
          · cases z
    · rw [if_neg hj] at h1
      refine ⟨o1, h1, ?_⟩
      rcases h2 with ⟨a, b⟩ | ⟨a, b, c⟩
      · exact .inl ⟨a, fun z => by simp [hj, b z]⟩
      · exact .inr ⟨a, b, by simp [c]⟩

/-- a def's entry: the caller's part of the heap, and where the lists and dicts stand that are lent to it to be changed -/
structure Bas where
  hp : Hp
  pin : Nat → Option Addr
/-- nothing is lent -/
abbrev Bas.of (H : Hp) : Bas := ⟨H, fun _ => none⟩
/-- the state between two statements: H0, G0 at the def's entry -/
structure StOk (K : PySem.W.Frag) (H0 : Bas) (G0 : Hp) (σ : L2.St) (e : Env) (H G : Hp) : Prop where
  ext : Ext H0.hp G0 H G
  len : σ.length = e.length
  sh : ∀ (i : Nat) d, e[i]? = some (some (d, false)) → ∃ v, σ[i]? = some (some v) ∧ Rep K G d v
  ow : ∀ (i : Nat) d, e[i]? = some (some (d, true)) → ∃ a, σ[i]? = some (some (.ref a)) ∧ H0.hp a = none ∧ G a = none ∧ OwnC K H G d a
  ne : ∀ (i j : Nat) d d' a, e[i]? = some (some (d, true)) → e[j]? = some (some (d', true)) → σ[i]? = some (some (.ref a)) → σ[j]? = some (some (.ref a)) → i = j
  pn : ∀ (i : Nat) a d, H0.pin i = some a → e[i]? = some (some (d, true)) → σ[i]? = some (some (.ref a))
/-- what a reckoning of the names at al may keep -/
def OwnAt (σ : L2.St) (e : Env) (al : List Nat) (b : Addr) : Prop := ∃ (i : Nat) (d : D), i ∈ al ∧ e[i]? = some (some (d, true)) ∧ σ[i]? = some (some (.ref b))
open Classical in
noncomputable def gA (σ : L2.St) (e : Env) (al : List Nat) (H G : Hp) : Hp := fun b => if OwnAt σ e al b then H b else G b
/-- no dict at al is owned -/
def NoDct (al : List Nat) (e : Env) : Prop := ∀ (i : Nat) d, i ∈ al → e[i]? = some (some (d, true)) → d.isDct = false
theorem StOk.exp0 {K : PySem.W.Frag} {H0 : Bas} {G0 H G : Hp} {σ : L2.St} {e : Env} (S : StOk K H0 G0 σ e H G) (al : List Nat) (nd : NoDct al e) :
    ∃ GA, EnvG K (fun i => i ∈ al) σ e H GA ∧ ∀ H' G', Ext H GA H' G' → StOk K H0 G0 σ (fz al e) H' G' := by
  have yes : ∀ {b : Addr}, OwnAt σ e al b → gA σ e al H G b = H b := fun h => if_pos h
  have no : ∀ {b : Addr}, ¬ OwnAt σ e al b → gA σ e al H G b = G b := fun h => if_neg h
  have gown : ∀ {b : Addr}, OwnAt σ e al b → G b = none := fun {b} ⟨i, d, _, h1, h2⟩ => by
    obtain ⟨a, q1, _, q2, _⟩ := S.ow i d h1
    rw [h2] at q1; cases q1; exact q2
  have s1 : Sub G (gA σ e al H G) := fun b o q => by
    by_cases h : OwnAt σ e al b
    · rw [gown h] at q; cases q
    · rw [no h]; exact q
  have s2 : Sub (gA σ e al H G) H := fun b o q => by
    by_cases h : OwnAt σ e al b
    · rw [yes h] at q; exact q
    · rw [no h] at q; exact S.ext.gh _ _ q
  have keep : ∀ (i : Nat) (d : D), i ∈ al → e[i]? = some (some (d, true)) → ∃ v, σ[i]? = some (some v) ∧ Rep K (gA σ e al H G) d v := fun i d hi h => by
    obtain ⟨a, q1, _, _, q5⟩ := S.ow i d h
    exact ⟨_, q1, q5.put (nd i d hi h) s1 (yes ⟨i, d, hi, h, q1⟩)⟩
  refine ⟨gA σ e al H G, ⟨s2, S.len, fun i d o h => ?_⟩, fun H' G' x => ?_⟩
  · cases o with
    | false =>
      obtain ⟨v, q1, q2⟩ := S.sh i d h
      exact ⟨v, q1, fun _ => q2.mono s1, (q2.c S.ext.gh).mono (Sub.refl _) s1⟩
    | true =>
      obtain ⟨a, q1, q2, q3, q5⟩ := S.ow i d h
      refine ⟨_, q1, fun z => ?_, q5.c.mono (Sub.refl _) s1⟩
      rcases z with z | z
      · exact q5.put (nd i d z h) s1 (yes ⟨i, d, z, h, q1⟩)
      · cases z
  · refine ⟨⟨S.ext.hh.trans x.hh, S.ext.gg.trans (s1.trans x.gg), x.gh, fun b z => ?_⟩, by rw [fz_length]; exact S.len, fun i d h => ?_, fun i d h => ?_, fun i j d d' a h1 h2 h3 h4 => ?_, fun i a d hp h => ?_⟩
    · rcases x.new b z with z | z
      · by_cases h : OwnAt σ e al b
        · obtain ⟨i, d, _, h1, h2⟩ := h
          obtain ⟨a, q1, q2, _⟩ := S.ow i d h1
          rw [h2] at q1; cases q1; exact .inr (.inl q2)
        · rw [no h] at z; exact S.ext.new b z
      · exact .inr (z.back S.ext.hh)
    · obtain ⟨o', h1, h2⟩ := fz_get al e i d false h
      rcases h2 with ⟨rfl, _⟩ | ⟨_, rfl, hi⟩
      · obtain ⟨v, q1, q2⟩ := S.sh i d h1
        exact ⟨v, q1, q2.mono (s1.trans x.gg)⟩
      · obtain ⟨v, q1, q2⟩ := keep i d hi h1
        exact ⟨v, q1, q2.mono x.gg⟩
    · obtain ⟨o', h1, h2⟩ := fz_get al e i d true h
      rcases h2 with ⟨rfl, hi⟩ | ⟨z, _⟩
      · obtain ⟨a, q1, q2, q3, q5⟩ := S.ow i d h1
        refine ⟨a, q1, q2, ?_, q5.mono x.hh (s1.trans x.gg)⟩
        cases hg : G' a with
        | none => rfl
        | some u =>
          rcases x.new a (by rw [hg]; simp) with z | z
          · have nown : ¬ OwnAt σ e al a := fun ⟨j, d', hj, w1, w2⟩ => hi rfl (by rw [S.ne i j d d' a h1 w1 q1 w2]; exact hj)
            rw [no nown] at z
            exact absurd q3 z
          · exact absurd z q5.nfr
      · cases z
    · obtain ⟨o1, w1, z1⟩ := fz_get al e i d true h1
      obtain ⟨o2, w2, z2⟩ := fz_get al e j d' true h2
      have e1 : o1 = true := by rcases z1 with ⟨z, _⟩ | ⟨z, _⟩; exact z.symm; cases z
      have e2 : o2 = true := by rcases z2 with ⟨z, _⟩ | ⟨z, _⟩; exact z.symm; cases z
      subst e1 e2
      exact S.ne i j d d' a w1 w2 h3 h4
    · obtain ⟨o1, w1, z1⟩ := fz_get al e i d true h
      have e1 : o1 = true := by rcases z1 with ⟨z, _⟩ | ⟨z, _⟩; exact z.symm; cases z
      subst e1
      exact S.pn i a d hp w1

theorem set_get {α : Type} {e : List α} {i j : Nat} {x y : α} (h : (e.set i x)[j]? = some y) : (j = i ∧ y = x) ∨ (j ≠ i ∧ e[j]? = some y) := by
  by_cases hj : j = i
  · subst hj
    by_cases hl : j < e.length
    · rw [List.getElem?_set_self hl] at h; cases h; exact .inl ⟨rfl, rfl⟩
    · rw [List.getElem?_eq_none (by simpa using hl)] at h; cases h
  · rw [List.getElem?_set_ne (Ne.symm hj)] at h; exact .inr ⟨hj, h⟩
/-! the dicts at al are locked -/
def unownD (i : Nat) (e : Env) : Env := match e[i]? with
  | some (some (.dct t kvs, true)) => e.set i (some (.dct t kvs, false))
  | _ => e
def fzD : List Nat → Env → Env
  | [], e => e
  | i :: r, e => fzD r (unownD i e)
theorem unownD_get (i : Nat) (e : Env) (j : Nat) (d : D) (o : Bool) (h : (unownD i e)[j]? = some (some (d, o))) : ∃ o', e[j]? = some (some (d, o')) ∧ ((o = o' ∧ (o' = true → j = i → d.isDct = false)) ∨ (o = false ∧ o' = true ∧ j = i)) := by
  unfold unownD at h
  split at h
  · rename_i t kvs he
    by_cases hj : j = i
    · subst hj
      have hl : j < e.length := (List.getElem?_eq_some_iff.mp he).1
      rw [List.getElem?_set_self hl] at h
      cases h
      exact ⟨true, he, .inr ⟨rfl, rfl, rfl⟩⟩
    · rw [List.getElem?_set_ne (Ne.symm hj)] at h
      exact ⟨o, h, .inl ⟨rfl, fun _ z => absurd z hj⟩⟩
  · rename_i hn
    refine ⟨o, h, .inl ⟨rfl, fun z w => ?_⟩⟩
    subst z w
    cases d with
    | dct t kvs => exact absurd h (hn t kvs)
    | _ => rfl
theorem fzD_length : ∀ (al : List Nat) (e : Env), (fzD al e).length = e.length
  | [], e => rfl
  | i :: r, e => by
    rw [fzD, fzD_length r]
    unfold unownD
    split
    · rw [List.length_set]
    · rfl
theorem fzD_get : ∀ (al : List Nat) (e : Env) (j : Nat) (d : D) (o : Bool), (fzD al e)[j]? = some (some (d, o)) → ∃ o', e[j]? = some (some (d, o')) ∧ ((o = o' ∧ (o' = true → j ∈ al → d.isDct = false)) ∨ (o = false ∧ o' = true ∧ j ∈ al))
  | [], e, j, d, o, h => ⟨o, h, .inl ⟨rfl, fun _ z => by cases z⟩⟩
  | i :: r, e, j, d, o, h => by
    obtain ⟨o1, h1, h2⟩ := fzD_get r (unownD i e) j d o h
    obtain ⟨o2, h3, h4⟩ := unownD_get i e j d o1 h1
    refine ⟨o2, h3, ?_⟩
    rcases h2 with ⟨rfl, a⟩ | ⟨rfl, rfl, a⟩
    · rcases h4 with ⟨rfl, b⟩ | ⟨rfl, rfl, rfl⟩
      · refine .inl ⟨rfl, fun z w => ?_⟩
        rcases List.mem_cons.mp w with w | w
        · exact b z w
        · exact a z w
      · exact .inr ⟨rfl, rfl, List.mem_cons_self⟩
    · rcases h4 with ⟨rfl, b⟩ | ⟨z, _, _⟩
      · exact .inr ⟨rfl, rfl, List.mem_cons_of_mem _ a⟩
      · cases z
theorem fzD_keep : ∀ (al : List Nat) (e : Env) (j : Nat) (d : D) (o : Bool), e[j]? = some (some (d, o)) → ∃ o', (fzD al e)[j]? = some (some (d, o')) ∧ (o = false → o' = false)
  | [], e, j, d, o, h => ⟨o, h, id⟩
  | i :: r, e, j, d, o, h => by
    have step : ∃ o', (unownD i e)[j]? = some (some (d, o')) ∧ (o = false → o' = false) := by
      unfold unownD
      split
      · rename_i t kvs he
        by_cases hj : j = i
        · subst hj
          have hl : j < e.length := (List.getElem?_eq_some_iff.mp he).1
          rw [he] at h; cases h
          exact ⟨false, List.getElem?_set_self hl, fun _ => rfl⟩
        · exact ⟨o, by rw [List.getElem?_set_ne (Ne.symm hj)]; exact h, id⟩
      · exact ⟨o, h, id⟩
    obtain ⟨o1, h1, h2⟩ := step
    obtain ⟨o2, h3, h4⟩ := fzD_keep r (unownD i e) j d o1 h1
    exact ⟨o2, h3, fun z => h4 (h2 z)⟩
theorem fzD_none : ∀ (al : List Nat) (e : Env) (j : Nat), (∀ d o, e[j]? ≠ some (some (d, o))) → (fzD al e)[j]? = e[j]?
  | [], e, j, h => rfl
  | i :: r, e, j, h => by
    have step : (unownD i e)[j]? = e[j]? := by
      unfold unownD
      split
      · rename_i t kvs he
        by_cases hj : j = i
        · subst hj; exact absurd he (h _ _)
        · rw [List.getElem?_set_ne (Ne.symm hj)]
      · rfl
    rw [fzD, fzD_none r (unownD i e) j (fun d o => by rw [step]; exact h d o), step]
/-- the flags alone are other -/
theorem env_ext {a b : Env} (h : ∀ j : Nat, a[j]? = b[j]?) : a = b := List.ext_getElem? h
theorem fz_is (al : List Nat) (e : Env) (j : Nat) (d : D) (o : Bool) (h : e[j]? = some (some (d, o))) : (fz al e)[j]? = some (some (d, if j ∈ al then false else o)) := by
  induction al generalizing e o with
  | nil => rw [if_neg (by simp)]; exact h
  | cons i r ih =>
    rw [fz]
    have hu : (unown i e)[j]? = some (some (d, if j = i then false else o)) := by
      rw [unown_get]
      by_cases hj : j = i
      · rw [if_pos hj, h, if_pos hj]
      · rw [if_neg hj, h, if_neg hj]
    rw [ih _ _ hu]
    by_cases h1 : j ∈ r
    · rw [if_pos h1, if_pos (List.mem_cons_of_mem _ h1)]
    · rw [if_neg h1]
      by_cases h2 : j = i
      · rw [if_pos h2, if_pos (by simp [h2])]
      · rw [if_neg h2, if_neg (by simp [h1, h2])]
theorem fz_none (al : List Nat) (e : Env) (j : Nat) (h : ∀ d o, e[j]? ≠ some (some (d, o))) : (fz al e)[j]? = e[j]? := by
  induction al generalizing e with
  | nil => rfl
  | cons i r ih =>
    have step : (unown i e)[j]? = e[j]? := by
      rw [unown_get]
      by_cases hj : j = i
      · rw [if_pos hj]
        split
        · rename_i d o he; exact absurd he (h d o)
        · rfl
      · rw [if_neg hj]
    rw [fz, ih _ (fun d o => by rw [step]; exact h d o), step]
theorem fz_fzD (al : List Nat) (e : Env) : fz al (fzD al e) = fz al e := env_ext fun j => by
  by_cases h : ∃ d o, e[j]? = some (some (d, o))
  · obtain ⟨d, o, h⟩ := h
    obtain ⟨o1, h1, h2⟩ := fzD_keep al e j d o h
    obtain ⟨o2, h3, h4⟩ := fzD_get al e j d o1 h1
    rw [h] at h3; cases h3
    rw [fz_is al _ j d o1 h1, fz_is al e j d o h]
    by_cases hj : j ∈ al
    · rw [if_pos hj, if_pos hj]
    · rw [if_neg hj, if_neg hj]
      rcases h4 with ⟨rfl, _⟩ | ⟨_, _, z⟩
      · rfl
      · exact absurd z hj
  · have n : ∀ d o, e[j]? ≠ some (some (d, o)) := fun d o z => h ⟨d, o, z⟩
    have n2 := fzD_none al e j n
    rw [fz_none al _ j (fun d o => by rw [n2]; exact n d o), fz_none al e j n, n2]
theorem fzD_nd (al : List Nat) (e : Env) : NoDct al (fzD al e) := fun i d hi h => by
  obtain ⟨o', h1, h2⟩ := fzD_get al e i d true h
  rcases h2 with ⟨rfl, z⟩ | ⟨z, _⟩
  · exact z rfl hi
  · cases z
theorem StOk.lock {K : PySem.W.Frag} {H0 : Bas} {G0 : Hp} {σ : L2.St} : ∀ (al : List Nat) {e : Env} {H G : Hp}, StOk K H0 G0 σ e H G → LockT (fun H1 => ∃ G1, StOk K H0 G0 σ (fzD al e) H1 G1) H
  | [], _, _, G, S => .here ⟨G, S⟩
  | i :: r, e, H, G, S => by
    have step : LockT (fun H1 => ∃ G1, StOk K H0 G0 σ (unownD i e) H1 G1) H := by
      unfold unownD
      split
      · rename_i t kvs he
        obtain ⟨a, q1, q2, q3, q5⟩ := S.ow i _ he
        obtain ⟨u, hu, mu, _⟩ := q5.lock rfl (Sub.refl G)
        refine .lock hu mu fun od => .here ⟨upd G a (.frz od u), ?_⟩
        have sg : Sub G (upd G a (.frz od u)) := Sub.upd q3
        have n0 : ∀ {b o}, H0.hp b = some o → b ≠ a := fun {b o} z w => by rw [w, q2] at z; cases z
        refine ⟨⟨fun b o z => by rw [upd_ne (n0 z)]; exact S.ext.hh _ _ z, S.ext.gg.trans sg, fun b o z => ?_, fun b z => ?_⟩, by rw [List.length_set]; exact S.len, fun j d' h => ?_, fun j d' h => ?_, fun j k d1 d2 b h1 h2 h3 h4 => ?_, fun j b d' hp h => ?_⟩
        · by_cases hb : b = a
          · subst hb; rw [upd_same] at z ⊢; exact z
          · rw [upd_ne hb] at z ⊢; exact S.ext.gh _ _ z
        · by_cases hb : b = a
          · subst hb; exact .inr (.inl q2)
          · rw [upd_ne hb] at z; exact S.ext.new b z
        · rcases set_get h with ⟨rfl, z⟩ | ⟨hj, z⟩
          · cases z
            obtain ⟨u', hu', _, k⟩ := q5.lock rfl sg
            rw [hu] at hu'; cases hu'
            exact ⟨_, q1, k od upd_same⟩
          · obtain ⟨v, w1, w2⟩ := S.sh j d' z
            exact ⟨v, w1, w2.mono sg⟩
        · rcases set_get h with ⟨_, z⟩ | ⟨hj, z⟩
          · cases z
          · obtain ⟨b, w1, w2, w3, w4⟩ := S.ow j d' z
            have nb : b ≠ a := fun q => hj (S.ne j i d' _ a z he (by rw [w1, q]) q1)
            exact ⟨b, w1, w2, by rw [upd_ne nb]; exact w3, w4.mono' (fun o' z => by rw [upd_ne nb]; exact z) sg⟩
        · rcases set_get h1 with ⟨_, z⟩ | ⟨hj, z1⟩
          · cases z
          · rcases set_get h2 with ⟨_, z⟩ | ⟨hk, z2⟩
            · cases z
            · exact S.ne j k d1 d2 b z1 z2 h3 h4
        · rcases set_get h with ⟨_, z⟩ | ⟨hj, z⟩
          · cases z
          · exact S.pn j b d' hp z
      · exact .here ⟨G, S⟩
    exact step.bind fun H1 ⟨G1, S1⟩ => StOk.lock r S1
theorem fz_fzD_own {al : List Nat} {e : Env} {j : Nat} {d : D} (h : (fz al e)[j]? = some (some (d, true))) : (fzD al e)[j]? = some (some (d, true)) := by
  rw [← fz_fzD] at h
  obtain ⟨o', w1, w2⟩ := fz_get al _ j d true h
  have e1 : o' = true := by rcases w2 with ⟨z, _⟩ | ⟨z, _⟩; exact z.symm; cases z
  rw [e1] at w1
  exact w1
/-- a reckoning's state: the dicts that are handed on are locked -/
theorem StOk.exp {K : PySem.W.Frag} {H0 : Bas} {G0 H G : Hp} {σ : L2.St} {e : Env} (S : StOk K H0 G0 σ e H G) (al : List Nat) :
    LockT (fun H1 => ∃ G1 GA, StOk K H0 G0 σ (fzD al e) H1 G1 ∧ EnvG K (fun i => i ∈ al) σ e H1 GA ∧ ∀ H' G', Ext H1 GA H' G' → StOk K H0 G0 σ (fz al e) H' G') H :=
  (S.lock al).imp fun H1 ⟨G1, S1⟩ => by
    obtain ⟨GA, E, nxt⟩ := S1.exp0 al (fzD_nd al e)
    refine ⟨G1, GA, S1, ⟨E.sub, by rw [E.len, fzD_length], fun i d o h => ?_⟩, fun H' G' x => by rw [← fz_fzD]; exact nxt H' G' x⟩
    obtain ⟨o1, h1, h2⟩ := fzD_keep al e i d o h
    obtain ⟨v, w1, w2, w3⟩ := E.val i d o1 h1
    exact ⟨v, w1, fun z => w2 (z.imp id h2), w3⟩

/-! a name is stored -/
section
variable {K : PySem.W.Frag} {H0 : Bas} {G0 H G : Hp} {σ : L2.St} {e : Env}
theorem StOk.lt (S : StOk K H0 G0 σ e H G) {i : Nat} {s : Sl} {x : Sl} (h : (e.set i x)[i]? = some s) : i < σ.length := by
  by_cases hl : i < e.length
  · rw [S.len]; exact hl
  · rw [List.getElem?_eq_none (by simpa using hl)] at h; cases h
theorem StOk.set (S : StOk K H0 G0 σ e H G) (i : Nat) {d : D} {v : V} (r : Rep K G d v) : StOk K H0 G0 (σ.set i (some v)) (e.set i (some (d, false))) H G := by
  refine ⟨S.ext, by rw [List.length_set, List.length_set]; exact S.len, fun j d' h => ?_, fun j d' h => ?_, fun j k d1 d2 a h1 h2 h3 h4 => ?_, fun j a d' hp h => ?_⟩
  · rcases set_get h with ⟨rfl, z⟩ | ⟨hj, z⟩
    · cases z
      exact ⟨v, List.getElem?_set_self (S.lt h), r⟩
    · obtain ⟨w, q1, q2⟩ := S.sh j d' z
      exact ⟨w, by rw [List.getElem?_set_ne (Ne.symm hj)]; exact q1, q2⟩
  · rcases set_get h with ⟨_, z⟩ | ⟨hj, z⟩
    · cases z
    · obtain ⟨a, q1, q2⟩ := S.ow j d' z
      exact ⟨a, by rw [List.getElem?_set_ne (Ne.symm hj)]; exact q1, q2⟩
  · rcases set_get h1 with ⟨_, z⟩ | ⟨hj, z1⟩
    · cases z
    · rcases set_get h2 with ⟨_, z⟩ | ⟨hk, z2⟩
      · cases z
      · rw [List.getElem?_set_ne (Ne.symm hj)] at h3
        rw [List.getElem?_set_ne (Ne.symm hk)] at h4
        exact S.ne j k d1 d2 a z1 z2 h3 h4
  · rcases set_get h with ⟨_, z⟩ | ⟨hj, z⟩
    · cases z
    · rw [List.getElem?_set_ne (Ne.symm hj)]; exact S.pn j a d' hp z
theorem StOk.setF (S : StOk K H0 G0 σ e H G) (i : Nat) {d : D} {a : Addr} {Hb : Hp} (hb : Sub H0.hp Hb) (ho : ∀ (j : Nat) d b, e[j]? = some (some (d, true)) → σ[j]? = some (some (.ref b)) → Hb b ≠ none) (ha : Hb a = none) (ga : G a = none) (rc : OwnC K H G d a) (hpin : H0.pin i = none) :
    StOk K H0 G0 (σ.set i (some (.ref a))) (e.set i (some (d, true))) H G := by
  have other : ∀ (j : Nat) d' b, e[j]? = some (some (d', true)) → σ[j]? = some (some (.ref b)) → b ≠ a := fun j d' b h1 h2 z => ho j d' b h1 h2 (by rw [z]; exact ha)
  refine ⟨S.ext, by rw [List.length_set, List.length_set]; exact S.len, fun j d' h => ?_, fun j d' h => ?_, fun j k d1 d2 b h1 h2 h3 h4 => ?_, fun j b d' hp h => ?_⟩
  · rcases set_get h with ⟨_, z⟩ | ⟨hj, z⟩
    · cases z
    · obtain ⟨w, q1, q2⟩ := S.sh j d' z
      exact ⟨w, by rw [List.getElem?_set_ne (Ne.symm hj)]; exact q1, q2⟩
  · rcases set_get h with ⟨rfl, z⟩ | ⟨hj, z⟩
    · cases z
      exact ⟨a, List.getElem?_set_self (S.lt h), hb.free ha, ga, rc⟩
    · obtain ⟨b, q1, q2⟩ := S.ow j d' z
      exact ⟨b, by rw [List.getElem?_set_ne (Ne.symm hj)]; exact q1, q2⟩
  · rcases set_get h1 with ⟨rfl, z1⟩ | ⟨hj, z1⟩
    · rw [List.getElem?_set_self (S.lt h1)] at h3
      cases h3
      rcases set_get h2 with ⟨e2, _⟩ | ⟨hk, z2⟩
      · exact e2.symm
      · rw [List.getElem?_set_ne (Ne.symm hk)] at h4
        exact absurd rfl (other k d2 a z2 h4)
    · rw [List.getElem?_set_ne (Ne.symm hj)] at h3
      rcases set_get h2 with ⟨rfl, _⟩ | ⟨hk, z2⟩
      · rw [List.getElem?_set_self (S.lt h2)] at h4
        cases h4
        exact absurd rfl (other j d1 a z1 h3)
      · rw [List.getElem?_set_ne (Ne.symm hk)] at h4
        exact S.ne j k d1 d2 b z1 z2 h3 h4
  · rcases set_get h with ⟨rfl, _⟩ | ⟨hj, z⟩
    · rw [hpin] at hp; cases hp
    · rw [List.getElem?_set_ne (Ne.symm hj)]; exact S.pn j b d' hp z
/-- the list or dict of a name is changed -/
theorem StOk.change (S : StOk K H0 G0 σ e H G) {i : Nat} {d d' : D} {a : Addr} {o : HO} (h : e[i]? = some (some (d, true))) (hs : σ[i]? = some (some (.ref a))) (rc : OwnC K (upd H a o) G d' a) :
    StOk K H0 G0 σ (e.set i (some (d', true))) (upd H a o) G := by
  obtain ⟨a', q1, q2, q3, q5⟩ := S.ow i d h
  rw [hs] at q1; cases q1
  have il : i < e.length := (List.getElem?_eq_some_iff.mp h).1
  have nG : ∀ {b u}, G b = some u → b ≠ a := fun {b u} z w => by rw [w, q3] at z; cases z
  have n0 : ∀ {b u}, H0.hp b = some u → b ≠ a := fun {b u} z w => by rw [w, q2] at z; cases z
  refine ⟨⟨fun b u z => by rw [upd_ne (n0 z)]; exact S.ext.hh _ _ z, S.ext.gg, fun b u z => by rw [upd_ne (nG z)]; exact S.ext.gh _ _ z, S.ext.new⟩, by rw [List.length_set]; exact S.len, fun j d1 h1 => ?_, fun j d1 h1 => ?_, fun j k d1 d2 b h1 h2 h3 h4 => ?_, fun j b d1 hp h1 => ?_⟩
  · rcases set_get h1 with ⟨_, z⟩ | ⟨hj, z⟩
    · cases z
    · exact S.sh j d1 z
  · rcases set_get h1 with ⟨rfl, z⟩ | ⟨hj, z⟩
    · cases z
      exact ⟨a, hs, q2, q3, rc⟩
    · obtain ⟨b, w1, w2, w3, w5⟩ := S.ow j d1 z
      have nb : b ≠ a := fun q => hj (S.ne j i d1 d b z h w1 (by rw [q]; exact hs))
      exact ⟨b, w1, w2, w3, w5.mono' (fun o' z => by rw [upd_ne nb]; exact z) (Sub.refl _)⟩
  · have k1 : ∃ d', e[j]? = some (some (d', true)) := by
      rcases set_get h1 with ⟨rfl, _⟩ | ⟨_, z⟩
      · exact ⟨d, h⟩
      · exact ⟨_, z⟩
    have k2 : ∃ d', e[k]? = some (some (d', true)) := by
      rcases set_get h2 with ⟨rfl, _⟩ | ⟨_, z⟩
      · exact ⟨d, h⟩
      · exact ⟨_, z⟩
    obtain ⟨x1, y1⟩ := k1
    obtain ⟨x2, y2⟩ := k2
    exact S.ne j k x1 x2 b y1 y2 h3 h4
  · rcases set_get h1 with ⟨rfl, _⟩ | ⟨_, z⟩
    · exact S.pn j b d hp h
    · exact S.pn j b d1 hp z
end
end DL

namespace DL
open PySem PySem.Spec PyProof.Rows L2
open PySem.Builtin.Int (intBits)

def SPost (K : PySem.W.Frag) (mg : Str → Option Value) (W : WX) (H0 : Bas) (G0 : Hp) (r : Out) (Z : Ends) : Prop := match r with
  | .nx e' => ∀ σ' H' G', StOk K H0 G0 σ' e' H' G' → Z.nx σ' H'
  | .bk e' => ∀ σ' H' G', StOk K H0 G0 σ' e' H' G' → Z.bk σ' H'
  | .ct e' => ∀ σ' H' G', StOk K H0 G0 σ' e' H' G' → Z.ct σ' H'
  | .rt d => ∀ v H' G', Ext H0.hp G0 H' G' → Rep K G' d v → Z.rt v H'
  | .ro d => ∀ a H' G', Ext H0.hp G0 H' G' → H0.hp a = none → G' a = none → OwnC K H' G' d a → Z.rt (.ref a) H'
  | .rm d e' => ∀ v σ' H' G', StOk K H0 G0 σ' e' H' G' → Rep K G' d v → Z.rt v H'
  | .ex c fs e' => ∀ cls o σ' H' G' H'', StOk K H0 G0 σ' e' H' G' → Sub H' H'' → IsExc K mg c fs cls o H'' → W cls o σ' H''
  | .bad => False
def tS (K : PySem.W.Frag) (mg : Str → Option Value) (W : WX) (H0 : Bas) (G0 : Hp) (f : Env → Out) : TS := fun Z σ H => ∃ e G, StOk K H0 G0 σ e H G ∧ SPost K mg W H0 G0 (f e) Z
abbrev DS (X : Cx) (W : WX) (H0 : Bas) (G0 : Hp) (st : Stmt) (f : Env → Out) : Prop := PS X st (tS X.K X.mg W H0 G0 f)
abbrev DSs (X : Cx) (W : WX) (H0 : Bas) (G0 : Hp) (st : List Stmt) (f : Env → Out) : Prop := PSs X st (tS X.K X.mg W H0 G0 f)

/-- a reckoning, then what follows -/
def sE {α : Type} (al : List Nat) (f : Env → Res α) (k : α → Env → Out) : Env → Out := fun e => match f e with
  | .ok a => k a (fz al e)
  | .exc c fs => .ex c fs (fz al e)
  | .bad => .bad
section
variable {X : Cx} {W : WX} {H0 : Bas} {G0 : Hp}
theorem sE_step {al : List Nat} {α : Type} {f : Env → Res α} {k : α → Env → Out} {σ : L2.St} {H : Hp} {Z : Ends} (h : tS X.K X.mg W H0 G0 (sE al f k) Z σ H) :
    LockT (fun H => ∃ e G, EnvG X.K (fun i => i ∈ al) σ e H G ∧ PostG X.K X.mg (fun c o H' => W c o σ H') H G (f e) fun a H' G' => StOk X.K H0 G0 σ (fz al e) H' G' ∧ SPost X.K X.mg W H0 G0 (k a (fz al e)) Z) H := by
  obtain ⟨e, G, S, p⟩ := h
  refine (S.exp al).imp fun H ⟨G1, GA, S1, E, nxt⟩ => ?_
  refine ⟨e, GA, E, ?_⟩
  unfold sE at p
  cases hr : f e with
  | ok a =>
    rw [hr] at p
    exact fun H' G' x => ⟨nxt H' G' x, p⟩
  | exc c fs =>
    rw [hr] at p
    exact fun cls o H' s ix => p cls o σ H GA H' (nxt H GA (Ext.refl E.sub)) s ix
  | bad =>
    rw [hr] at p
    exact p.elim

/-! ### the plain statements -/
variable {al : List Nat} {st : Stmt} {rest : List Stmt} {ex : Expr} {pos : Pos}
def sSkip : Env → Out := fun e => .nx e
def sSeq (f g : Env → Out) : Env → Out := fun e => match f e with
  | .nx e' => g e'
  | r => r
theorem dss_nil : DSs X W H0 G0 [] sSkip := pss_nil.imp fun Z σ H ⟨e, G, S, p⟩ => p σ H G S
theorem dss_cons {f g : Env → Out} (h1 : DS X W H0 G0 st f) (h2 : DSs X W H0 G0 rest g) : DSs X W H0 G0 (st :: rest) (sSeq f g) :=
  (pss_cons h1 h2).imp fun Z σ H ⟨e, G, S, p⟩ => ⟨e, G, S, by
    unfold sSeq at p
    cases hr : f e with
    | nx e' => rw [hr] at p; exact fun σ' H' G' S' => ⟨e', G', S', p⟩
    | rt d => rw [hr] at p; exact p
    | ro d => rw [hr] at p; exact p
    | rm d e' => rw [hr] at p; exact p
    | bk e' => rw [hr] at p; exact p
    | ct e' => rw [hr] at p; exact p
    | ex c fs e' => rw [hr] at p; exact p
    | bad => rw [hr] at p; exact p⟩
def sBreak : Env → Out := fun e => .bk e
def sCont : Env → Out := fun e => .ct e
theorem ds_cont : DS X W H0 G0 (.Continue pos) sCont := ps_continue.imp fun Z σ H ⟨e, G, S, p⟩ => p σ H G S
def sRet (al : List Nat) (f : Env → Res D) : Env → Out := sE al f fun d _ => .rt d
theorem ds_ret {f : Env → Res D} (h : DE X W (fun i => i ∈ al) ex f) : DS X W H0 G0 (.Return (some ex) pos) (sRet al f) :=
  (ps_ret h).lk fun Z σ H hq => (sE_step hq).imp fun H ⟨e, G, E, p⟩ => by
    exact ⟨e, G, E, p.imp fun d H' G' x ⟨S, q⟩ v r => q v H' G' S.ext r⟩
/-- return x, x a list or dict of its own -/
def sRetO (i : Nat) : Env → Out := fun e => match e[i]? with
  | some (some (d, true)) => .ro d
  | some (some (d, false)) => .rt d
  | _ => .bad
/-- return of a new list or dict -/
def sRetF (al : List Nat) (f : Env → Res D) : Env → Out := sE al f fun d _ => .ro d
def sRetN : Env → Out := fun _ => .rt .non
def sIf (al : List Nat) (ft : Env → Res Bool) (f g : Env → Out) : Env → Out := sE al ft fun b e => if b = true then f e else g e
theorem ds_if {c : Expr} {a b : List Stmt} {ft : Env → Res Bool} {f g : Env → Out} (hc : DT X W (fun i => i ∈ al) c ft) (ha : DSs X W H0 G0 a f) (hb : DSs X W H0 G0 b g) : DS X W H0 G0 (.If c a b pos) (sIf al ft f g) :=
  (ps_if hc ha hb).lk fun Z σ H hq => (sE_step hq).imp fun H ⟨e, G, E, p⟩ => by
    refine ⟨e, G, E, p.imp fun k H' G' x ⟨S, q⟩ => ?_⟩
    cases k with
    | true => rw [if_pos rfl] at q ⊢; exact ⟨_, G', S, q⟩
    | false => rw [if_neg Bool.false_ne_true] at q ⊢; exact ⟨_, G', S, q⟩
def sDrop (al : List Nat) (f : Env → Res D) : Env → Out := sE al f fun _ e => .nx e
/-- x = e -/
def sSet (al : List Nat) (i : Nat) (f : Env → Res D) : Env → Out := sE al f fun d e => .nx (e.set i (some (d, false)))
theorem ds_set {i : Nat} {x : Str} {pos' : Pos} {f : Env → Res D} (hN : X.N.Nodup) (hi : X.N[i]? = some x) (hx : Loc X.env.scope x) (h : DE X W (fun i => i ∈ al) ex f) (hs : swapsWith ex (some (.Name x pos')) pos.line X.env = pure false := by rfl)
    (hf : X.fn x = true ∨ X.env.scope.names.lookup x = some .local := by first | exact .inl rfl | exact .inr rfl | assumption) : DS X W H0 G0 (.Assign [.Name x pos'] ex pos) (sSet al i f) :=
  (ps_set hN hi hx h hs hf).lk fun Z σ H hq => (sE_step hq).imp fun H ⟨e, G, E, p⟩ => by
    exact ⟨e, G, E, p.imp fun d H' G' _ ⟨S, q⟩ v r => q _ H' G' (S.set i r)⟩
/-- return out of a def that was lent lists or dicts -/
def sRetM (al : List Nat) (f : Env → Res D) : Env → Out := sE al f fun d e => .rm d e
theorem ds_retM {f : Env → Res D} (h : DE X W (fun i => i ∈ al) ex f) : DS X W H0 G0 (.Return (some ex) pos) (sRetM al f) :=
  (ps_ret h).lk fun Z σ H hq => (sE_step hq).imp fun H ⟨e, G, E, p⟩ => by
    exact ⟨e, G, E, p.imp fun d H' G' x ⟨S, q⟩ v r => q v σ H' G' S r⟩
/-- x = a new list or dict, to be changed -/
def sSetF (al : List Nat) (i : Nat) (f : Env → Res D) : Env → Out := sE al f fun d e => .nx (e.set i (some (d, true)))
theorem ds_setF {i : Nat} {x : Str} {pos' : Pos} {f : Env → Res D} (hN : X.N.Nodup) (hi : X.N[i]? = some x) (hx : Loc X.env.scope x) (h : DF X W (fun i => i ∈ al) ex f) (hs : swapsWith ex (some (.Name x pos')) pos.line X.env = pure false := by rfl)
    (hf : X.fn x = true ∨ X.env.scope.names.lookup x = some .local := by first | exact .inl rfl | exact .inr rfl | assumption) (hpin : H0.pin i = none := by rfl) : DS X W H0 G0 (.Assign [.Name x pos'] ex pos) (sSetF al i f) :=
  (ps_set hN hi hx h hs hf).lk fun Z σ H ⟨e, G, S, p⟩ => (S.exp al).imp fun H ⟨G1, GA, S1, E, nxt⟩ => by
    refine ⟨e, GA, E, ?_⟩
    unfold sSetF sE at p
    cases hr : f e with
    | ok d =>
      rw [hr] at p
      intro H' G' x a ha ga rc
      have S' := nxt H' G' x
      refine p _ H' G' (S'.setF i (Hb := H) S1.ext.hh (fun j d' b h1 h2 => ?_) ha ga rc hpin)
      have w1 := fz_fzD_own h1
      obtain ⟨a', q1, _, _, q4⟩ := S1.ow j d' w1
      rw [h2] at q1; cases q1
      exact q4.is
    | exc c fs =>
      rw [hr] at p
      exact fun cls o H' s ix => p cls o σ H GA H' (nxt H GA (Ext.refl E.sub)) s ix
    | bad => rw [hr] at p; exact p.elim

/-! ### a, b = e -/
inductive Pat where
  | nm (i : Nat)
  | tp (ps : List Pat)
mutual
def Pat.bind : Pat → D → Env → Res Env
  | .nm i, d, e => .ok (e.set i (some (d, false)))
  | .tp ps, d, e => match d with
    | .tup ds => Pat.binds ps ds e
    | _ => .bad
def Pat.binds : List Pat → List D → Env → Res Env
  | [], [], e => .ok e
  | p :: ps, d :: ds, e => (Pat.bind p d e).bind fun e' => Pat.binds ps ds e'
  | _, _, _ => .bad
end
mutual
def Pat.slots : Pat → List Nat
  | .nm i => [i]
  | .tp ps => Pat.slotss ps
def Pat.slotss : List Pat → List Nat
  | [] => []
  | p :: ps => Pat.slots p ++ Pat.slotss ps
end
/-- what stays where a name of these is stored -/
def Setable (K : PySem.W.Frag) (sl : List Nat) (R : L2.St → Env → Hp → Hp → Prop) : Prop := ∀ σ e H G i d v, i ∈ sl → R σ e H G → Rep K G d v → R (σ.set i (some v)) (e.set i (some (d, false))) H G
/-- a target's reading: it stores by the pattern -/
def DG (X : Cx) (tg : Expr) (p : Pat) : Prop :=
  ∃ g, PG X tg g ∧ ∀ (R : L2.St → Env → Hp → Hp → Prop), Setable X.K p.slots R → ∀ (v : V) (σ : L2.St) (H G : Hp) (d : D) (e e' : Env) (Q : L2.St → Hp → Prop), R σ e H G → Sub G H → Rep X.K G d v → p.bind d e = .ok e' → (∀ σ', R σ' e' H G → Q σ' H) → g v σ H Q
def DGs (X : Cx) (tgs : List Expr) (ps : List Pat) : Prop :=
  ∃ g, PGs X tgs g ∧ ∀ (R : L2.St → Env → Hp → Hp → Prop), Setable X.K (Pat.slotss ps) R → ∀ (vs : List V) (σ : L2.St) (H G : Hp) (ds : List D) (e e' : Env) (Q : L2.St → Hp → Prop), R σ e H G → Sub G H → RepL X.K G ds vs → Pat.binds ps ds e = .ok e' → (∀ σ', R σ' e' H G → Q σ' H) → g vs σ H Q
theorem dg_name {i : Nat} {x : Str} (hN : X.N.Nodup) (hi : X.N[i]? = some x) (hx : Loc X.env.scope x) (hf : X.fn x = true ∨ X.env.scope.names.lookup x = some .local := by first | exact .inl rfl | exact .inr rfl | assumption) : DG X (.Name x pos) (.nm i) :=
  ⟨_, pg_name hN hi hx hf, fun R hR v σ H G d e e' Q S sg r h q => by
    cases h
    exact q _ (hR σ e H G i d v (by simp [Pat.slots]) S r)⟩
theorem dgs_nil : DGs X [] [] := ⟨_, pgs_nil, fun R hR vs σ H G ds e e' Q S sg r h q => by
  cases ds with
  | nil => cases h; exact ⟨r, q σ S⟩
  | cons d ds => cases h⟩
theorem dgs_cons {tg : Expr} {tgs : List Expr} {p : Pat} {ps : List Pat} (h1 : DG X tg p) (h2 : DGs X tgs ps)
    (hs : (assignEach (tg :: tgs) X.env).map (·.2) = assign tg X.env :: (assignEach tgs X.env).map (·.2) := by rfl) : DGs X (tg :: tgs) (p :: ps) := by
  obtain ⟨g1, a1, b1⟩ := h1
  obtain ⟨g2, a2, b2⟩ := h2
  refine ⟨_, pgs_cons a1 a2 hs, fun R hR vs σ H G ds e e' Q S sg r h q => ?_⟩
  cases ds with
  | nil => cases h
  | cons d ds =>
    obtain ⟨v, vr, ev, r1, r2⟩ := r
    dsimp only [Pat.binds] at h
    cases hb : p.bind d e with
    | exc c fs => rw [hb] at h; cases h
    | bad => rw [hb] at h; cases h
    | ok e1 =>
      rw [hb] at h
      refine ⟨v, vr, ev, b1 R (fun σ e H G i d v hi => hR σ e H G i d v (by simp [Pat.slotss, hi])) v σ H G d e e1 _ S sg r1 hb fun σ' S' => ?_⟩
      exact b2 R (fun σ e H G i d v hi => hR σ e H G i d v (by simp [Pat.slotss, hi])) vr σ' H G ds e1 e' Q S' sg r2 h q
theorem binds_length : ∀ (ps : List Pat) (ds : List D) (e e' : Env), Pat.binds ps ds e = .ok e' → ds.length = ps.length := by
  intro ps
  induction ps with
  | nil => intro ds e e' h; cases ds with
    | nil => rfl
    | cons _ _ => cases h
  | cons p ps ih => intro ds e e' h; cases ds with
    | nil => cases h
    | cons d ds =>
      dsimp only [Pat.binds] at h
      cases hb : p.bind d e with
      | exc c fs => rw [hb] at h; cases h
      | bad => rw [hb] at h; cases h
      | ok e1 => rw [hb] at h; rw [List.length_cons, List.length_cons, ih ds e1 e' h]
theorem dg_tup {tgs : List Expr} {k : Nat} {ps : List Pat} {n : Nat} (hc : X.calm = true) (h : DGs X tgs ps) (hl : ps.length = n)
    (hn : (assignEach tgs X.env).length = n := by rfl) (hst : (assignEach tgs X.env).findIdx? (·.1) = none := by rfl) : DG X (.Tuple tgs k pos) (.tp ps) := by
  obtain ⟨g, a, b⟩ := h
  refine ⟨_, pg_tup hc a hn hst, fun R hR v σ H G d e e' Q S sg r h q => ?_⟩
  cases d with
  | tup ds =>
    obtain ⟨p, vs, ev, s, r⟩ := r
    have h : Pat.binds ps ds e = .ok e' := h
    exact ⟨p, vs, ev, sg.pt s, by rw [r.length, binds_length ps ds e e' h, hl], b R (fun σ e H G i d v hi => hR σ e H G i d v (by simpa [Pat.slots] using hi)) vs σ H G ds e e' Q S sg r h q⟩
  | _ => cases h
theorem st_setable {K : PySem.W.Frag} {sl : List Nat} : Setable K sl (StOk K H0 G0) := fun σ e H G i d v _ S r => S.set i r
def sAsg (al : List Nat) (p : Pat) (f : Env → Res D) : Env → Out := sE al f fun d e => match p.bind d e with
  | .ok e' => .nx e'
  | _ => .bad
theorem ds_asg {tg : Expr} {p : Pat} {f : Env → Res D} (h : DE X W (fun i => i ∈ al) ex f) (hg : DG X tg p) (hs : swapsWithSole [tg] ex pos.line X.env = pure false := by rfl) (hw : swappedStores [tg] ex X.env = pure none := by rfl)
    (h1 : (assignEach [tg] X.env).map (·.2) = [assign tg X.env] := by rfl) : DS X W H0 G0 (.Assign [tg] ex pos) (sAsg al p f) := by
  obtain ⟨g, a, b⟩ := hg
  refine (ps_asg h a hs hw h1).lk fun Z σ H hq => (sE_step hq).imp fun H ⟨e, G, E, p⟩ => ?_
  refine ⟨e, G, E, p.imp fun d H' G' x ⟨S, q⟩ v r => ?_⟩
  cases hb : Pat.bind _ d (fz al e) with
  | ok e' =>
    rw [hb] at q
    exact b _ st_setable v σ H' G' d _ e' _ S S.ext.gh r hb fun σ2 S2 => q σ2 H' G' S2
  | exc c fs => rw [hb] at q; exact q.elim
  | bad => rw [hb] at q; exact q.elim

/-! ### lists changed in place -/
/-- the list that the name i holds, to be changed -/
def ownL (i : Nat) (e : Env) (k : List D → Out) : Out := match e[i]? with
  | some (some (.lst xs, true)) => k xs
  | _ => .bad
theorem StOk.ownL {σ : L2.St} {e : Env} {H G : Hp} {K : PySem.W.Frag} (S : StOk K H0 G0 σ e H G) {i : Nat} {xs : List D} (h : e[i]? = some (some (.lst xs, true))) : ∃ a vs, σ[i]? = some (some (.ref a)) ∧ H a = some (.lst vs) ∧ RepL K G xs vs := by
  obtain ⟨a, q1, q2, q3, vs, e, r⟩ := S.ow i _ h
  exact ⟨a, vs, q1, e, r⟩
end
end DL

namespace DL
open PySem PySem.Spec PyProof.Rows L2
open PySem.Builtin.Int (intBits)
section
variable {X : Cx} {W : WX} {H0 : Bas} {G0 : Hp} {al : List Nat} {ex : Expr} {es : List Expr} {pos apos cpos p1 p2 : Pos}
/-- a method that changes its list -/
def MutL (X : Cx) (id : String) (g : List D → List D → Option (List D)) : Prop :=
  ∃ r, MtR X id r ∧ ∀ (G H : Hp) (a : Addr) (xs : List D) (vs : List V) (ds : List D) (ws : List V) (xs' : List D) (Q : Hp → Prop), Sub G H → H a = some (.lst vs) → RepL X.K G xs vs → RepL X.K G ds ws → g xs ds = some xs' →
    (∀ vs', RepL X.K G xs' vs' → Q (upd H a (.lst vs'))) → r (.ref a) ws H fun _ H' => Q H'
def sMut (al : List Nat) (i : Nat) (g : List D → List D → Option (List D)) (fs : Env → Res (List D)) : Env → Out := fun e => ownL i (fz al e) fun xs => sE al fs (fun ds e' => match g xs ds with
  | some xs' => .nx (e'.set i (some (.lst xs', true)))
  | none => .bad) e
theorem ownL_inv {i : Nat} {e : Env} {k : List D → Out} {Z : Ends} {K : PySem.W.Frag} {mg : Str → Option Value} (p : SPost K mg W H0 G0 (ownL i e k) Z) : ∃ xs, e[i]? = some (some (.lst xs, true)) ∧ SPost K mg W H0 G0 (k xs) Z := by
  unfold ownL at p
  split at p
  · rename_i xs h; exact ⟨xs, h, p⟩
  · exact p.elim
theorem ds_mut {i : Nat} {x name : Str} {id : String} {g : List D → List D → Option (List D)} {fs : Env → Res (List D)} (slot : Slot "list" name id) (hty : typeOf (.builtin id) = pure (.type "method_descriptor")) (hm : MutL X id g)
    (hN : X.N[i]? = some x) (hv : Vis X.env.scope x) (h : DA X W (fun i => i ∈ al) (ex :: es) fs)
    (hd : (x == ("__debug__" : Str)) = false := by decide) (hcd : (x == ("__classdict__" : Str)) = false := by decide)
    (hbase : attributeBase (.Name x p1) name X.env (eval (.Name x p1) X.env) = eval (.Name x p1) X.env := by rfl)
    (hfew : ((backTo cpos (starEach (ex :: es) X.env)).all (fun x => !x.1) && (backToKw cpos (keywordEach [] X.env)).all (fun x => x.1.isSome)
      && decide ((ex :: es).length + ([] : List Keyword).length + (if ([] : List Keyword).isEmpty then 0 else 1) < 30)) = true := by rfl)
    (hline : (apos.endLine == cpos.line) = true := by rfl) (hs : starEach (ex :: es) X.env = (false, eval ex X.env) :: starEach es X.env := by rfl) (hplain : (backTo cpos (starEach es X.env)).any (·.1) = false := by rfl)
    (hsw : swapsWith (.Call (.Attribute (.Name x p1) name apos) (ex :: es) [] cpos) none pos.line X.env = pure false := by rfl) :
    DS X W H0 G0 (.Expr (.Call (.Attribute (.Name x p1) name apos) (ex :: es) [] cpos) pos) (sMut al i g fs) := by
  obtain ⟨r, m1, m2⟩ := hm
  refine (ps_expr (pe_bm PySem.F.plainAttrs_list slot hty m1 (pe_var hN hv hd hcd) h hbase hfew hline hs hplain) hsw).lk fun Z σ H ⟨e, G, S, p⟩ => (S.exp al).imp fun H ⟨G1, GA, S0, E, nxt⟩ => ?_
  have S1 := nxt H GA (Ext.refl E.sub)
  obtain ⟨xs, hx, p⟩ := ownL_inv p
  obtain ⟨a, vs, q1, q2, q3⟩ := S1.ownL hx
  refine ⟨.ref a, q1, .inl ⟨rfl, vs, SqL.of q2⟩, e, GA, E, ?_⟩
  unfold sE at p
  cases hr : fs e with
  | exc c fs' =>
    rw [hr] at p
    exact fun cls o H' s ix => p cls o σ H GA H' S1 s ix
  | bad => rw [hr] at p; exact p.elim
  | ok ds =>
    rw [hr] at p
    intro H' G' x ws rw
    have S2 := nxt H' G' x
    cases hg : g xs ds with
    | none => simp only [hg] at p; exact p.elim
    | some xs' =>
      simp only [hg] at p
      exact m2 G' H' a xs vs ds ws xs' (fun H3 => Z.nx σ H3) x.gh (x.hh _ _ q2) (q3.mono x.gg) rw hg fun vs' r' => p σ _ G' (S2.change hx q1 ⟨vs', upd_same, r'⟩)
def gAppend : List D → List D → Option (List D) := fun xs ds => match ds with
  | [d] => if xs.length < sizeLine then some (xs ++ [d]) else none
  | _ => none
theorem mut_append : MutL X "list.append" gAppend := by
  refine ⟨_, mt_append, fun G H a xs vs ds ws xs' Q sg ha r1 r2 hg q => ?_⟩
  match ds, hg with
  | [d], hg =>
    obtain ⟨w, _, rfl, rw, e⟩ := r2
    have e : _ = [] := e
    subst e
    dsimp only [gAppend] at hg
    by_cases hc : xs.length < sizeLine
    · rw [if_pos hc] at hg
      cases hg
      exact ⟨a, vs, w, rfl, rfl, ha, by rw [r1.length]; exact hc, q _ (r1.append (.cons rw .nil))⟩
    · rw [if_neg hc] at hg; cases hg
/-- xs.extend(ys), ys a list or a tuple -/
theorem extendL (l : Addr) (items : Array Value) (n : Nat) (b : Addr) (items2 : Array Value) (n2 : Nat) (dd : Option Addr) (sl : Array (Option Value)) (hc0 : ¬(!items.isEmpty && Builtin.List.listTooLong (items.size + items2.size)) = true) (hc1 : items.size ≤ sizeLine) (hs2 : items.size + items2.size ≤ sizeLine + 1) :
    Meets (Builtin.«list.extend» ⟨[.ref l, .ref b], []⟩) (fun _ R s => s.heap.get? l = some { cls := .type "list", dict := none, data := .seq items n, slots := #[] } ∧ s.heap.get? b = some { cls := .type "list", dict := dd, data := .seq items2 n2, slots := sl } ∧ R (.ok (.ret Value.none)) { s with heap := s.heap.update l (Obj.mapSeq fun x => x ++ items2), toks := s.toks }) :=
  .of_wp fun prog w A R s h => by
    obtain ⟨hp, g, d, tk, os⟩ := s; obtain ⟨hl, hb, h⟩ := h; have f1 := AutoSeq1.idx_int; have f2 := AutoSeq1.sub_tuple_tuple; have f3 := AutoSeq1.sub_list_list; have f4 := AutoSeq1.sub_tuple_list; have f5 := AutoSeq1.sub_list_tuple;
    have hz' : (items ++ items2).size ≤ sizeLine + 1 := by rw [Array.size_append]; exact hs2
    wp_walk using (wpAny_updateSeq hl rfl (hz := hc1) (_hz' := hz')), wpAny_loadPart' hl, wpAny_loadPart' hb; exact ⟨_, rfl, h⟩
theorem extendT (l : Addr) (items : Array Value) (n : Nat) (b : Addr) (items2 : Array Value) (n2 : Nat) (dd : Option Addr) (sl : Array (Option Value)) (hs0 : ¬(!items.isEmpty && Builtin.List.listTooLong (items.size + items2.size)) = true) (hs1 : items.size ≤ sizeLine) (hs2 : items.size + items2.size ≤ sizeLine + 1) :
    Meets (Builtin.«list.extend» ⟨[.ref l, .ref b], []⟩) (fun _ R s => s.heap.get? l = some { cls := .type "list", dict := none, data := .seq items n, slots := #[] } ∧ s.heap.get? b = some { cls := .type "tuple", dict := dd, data := .seq items2 n2, slots := sl } ∧ R (.ok (.ret Value.none)) { s with heap := s.heap.update l (Obj.mapSeq fun x => x ++ items2), toks := s.toks }) :=
  .of_wp fun prog w A R s h => by
    obtain ⟨hp, g, d, tk, os⟩ := s; obtain ⟨hl, hb, h⟩ := h; have f1 := AutoSeq1.idx_int; have f2 := AutoSeq1.sub_tuple_tuple; have f3 := AutoSeq1.sub_list_list; have f4 := AutoSeq1.sub_tuple_list; have f5 := AutoSeq1.sub_list_tuple;
    have hz' : (items ++ items2).size ≤ sizeLine + 1 := by rw [Array.size_append]; exact hs2
    wp_walk using (wpAny_updateSeq hl rfl (hz := hs1) (_hz' := hz')), wpAny_loadPart' hl, wpAny_loadPart' hb; exact ⟨_, rfl, h⟩
def rExtendR (K : PySem.W.Frag) : V → List V → Hp → VK → Prop := fun x vs H Q => ∃ l b xs zs, x = .ref l ∧ vs = [.ref b] ∧ H l = some (.lst xs) ∧ (SqL K H b zs ∨ SqT K H b zs) ∧ xs.length + zs.length ≤ sizeLine ∧ Q .non (upd H l (.lst (xs ++ zs)))
theorem mt_extendR : MtM X "list.extend" (rExtendR X.K) := by
  intro pins s σ H x vs v us Q I rx rv h
  obtain ⟨l, b, xs, zs, rfl, rfl, hH, hB, hz, q⟩ := h
  cases rx
  obtain ⟨u, rfl, ru⟩ := rv.one
  cases ru
  obtain ⟨z, its, n, r, hl, e⟩ := I.lstM hH
  have go : ∀ (its2 : List Value), Vals zs its2 → EP X pins σ Q .none { s with heap := s.heap.update l (Obj.mapSeq fun x => x ++ its2.toArray), toks := s.toks } := fun its2 r2 =>
    ⟨.non, _, I.lset (its' := its ++ its2) hH e (by simp) (r.append r2) (by rw [List.length_append]; omega), rfl, q⟩
  have hlong : ∀ (its2 : List Value), Vals zs its2 → ¬ (!its.toArray.isEmpty && Builtin.List.listTooLong (its.toArray.size + its2.toArray.size)) = true := fun its2 r2 => by
    have := r2.length
    have hsz : its.toArray.size + its2.toArray.size ≤ sizeLine := by rw [List.size_toArray, List.size_toArray]; omega
    rw [notLongL hsz, Bool.and_false]
    exact Bool.false_ne_true
  rcases hB with hB | hB
  · obtain ⟨its2, r2, ⟨⟨cls2, dd2, data2, sl2⟩, n2, ho2, hc2, hdd2, hd2⟩, _⟩ := I.list hB
    simp only at hc2 hd2
    subst hc2 hd2
    have := r2.length
    exact call_meets F.slot_list_extend ⟨_, e, rfl⟩ F.entry_list_extend (F.args_list_extend_2 _ _)
      (extendL l its.toArray n b its2.toArray n2 dd2 sl2 (hlong its2 r2) (by rw [List.size_toArray]; omega) (by simp only [List.size_toArray]; omega)) ⟨e, ho2, go its2 r2⟩
  · obtain ⟨its2, r2, ⟨⟨cls2, dd2, data2, sl2⟩, ho2, hc2, n2, hd2⟩, _⟩ := I.tuple hB
    simp only at hc2 hd2
    subst hc2 hd2
    have := r2.length
    exact call_meets F.slot_list_extend ⟨_, e, rfl⟩ F.entry_list_extend (F.args_list_extend_2 _ _)
      (extendT l its.toArray n b its2.toArray n2 dd2 sl2 (hlong its2 r2) (by rw [List.size_toArray]; omega) (by simp only [List.size_toArray]; omega)) ⟨e, ho2, go its2 r2⟩
def gExtend : List D → List D → Option (List D) := fun xs ds => match ds with
  | [.lst ys] => if xs.length + ys.length ≤ sizeLine then some (xs ++ ys) else none
  | [.tup ys] => if xs.length + ys.length ≤ sizeLine then some (xs ++ ys) else none
  | _ => none
theorem mut_extend : MutL X "list.extend" gExtend := by
  refine ⟨_, mt_extendR, fun G H a xs vs ds ws xs' Q sg ha r1 r2 hg q => ?_⟩
  match ds, hg with
  | [.lst ys], hg =>
    obtain ⟨w, _, rfl, ⟨b, zs, rfl, s, rz⟩, e⟩ := r2
    have e : _ = [] := e
    subst e
    dsimp only [gExtend] at hg
    by_cases hc : xs.length + ys.length ≤ sizeLine
    · rw [if_pos hc] at hg
      cases hg
      exact ⟨a, b, vs, zs, rfl, rfl, ha, .inl (sg.sql s), by rw [r1.length, rz.length]; exact hc, q _ (r1.append rz)⟩
    · rw [if_neg hc] at hg; cases hg
  | [.tup ys], hg =>
    obtain ⟨w, _, rfl, ⟨b, zs, rfl, s, rz⟩, e⟩ := r2
    have e : _ = [] := e
    subst e
    dsimp only [gExtend] at hg
    by_cases hc : xs.length + ys.length ≤ sizeLine
    · rw [if_pos hc] at hg
      cases hg
      exact ⟨a, b, vs, zs, rfl, rfl, ha, .inr (sg.pt s), by rw [r1.length, rz.length]; exact hc, q _ (r1.append rz)⟩
    · rw [if_neg hc] at hg; cases hg
/-- xs[i] = v -/
def sPutL (al : List Nat) (i : Nat) (fk fv : Env → Res D) : Env → Out := fun e => ownL i (fz al e) fun xs => sE al (fun e => (fv e).bind fun v => (fk e).bind fun k => .ok (k, v)) (fun kv e' => match kv.1 with
  | .int k => match ixN xs.length k with
    | some j => .nx (e'.set i (some (.lst (xs.set j kv.2), true)))
    | none => .bad
  | _ => .bad) e
/-! ### what a loop walks -/
/-- J yields ds; what is walked is read in B, its items in G -/
structure WalkOf (K : PySem.W.Frag) (J : It) (ds : List D) (B G : Hp) : Prop where
  go : ∀ H i, Sub B H → i < ds.length → J.go i H
  stop : ∀ H, Sub B H → J.stop ds.length H
  yld : ∀ H G2 i x H', Sub B H → Sub G G2 → Sub G2 H → i < ds.length → J.yld i H x H' → ∃ d G', ds[i]? = some d ∧ Ext H G2 H' G' ∧ Rep K G' d x
def tI (K : PySem.W.Frag) (mg : Str → Option Value) (W : WX) (A : Nat → Prop) (f : Env → Res (List D)) : TI := fun σ H R => ∃ e G, EnvG K A σ e H G ∧ PostG K mg (fun c o H' => W c o σ H') H G (f e) fun ds H' G' => ∀ J, WalkOf K J ds G' G' → R J H'
def tIR (K : PySem.W.Frag) (mg : Str → Option Value) (W : WX) (A : Nat → Prop) (f : Env → Res (List D)) : TI := fun σ H R => ∃ e G, EnvG K A σ e H G ∧ PostG K mg (fun c o H' => W c o σ H') H G (f e) fun ds H' G' => ∀ J, WalkOf K J ds H' G' → R J H'
abbrev DI (X : Cx) (W : WX) (A : Nat → Prop) (tg ex : Expr) (f : Env → Res (List D)) : Prop := PI X tg ex (tI X.K X.mg W A f)
abbrev DIR (X : Cx) (W : WX) (A : Nat → Prop) (tg ex : Expr) (f : Env → Res (List D)) : Prop := PI X tg ex (tIR X.K X.mg W A f)
theorem walk_list {K : PySem.W.Frag} {B G : Hp} {a : Addr} {ds : List D} {vs : List V} (s : SqL K B a vs) (r : RepL K G ds vs) : WalkOf K (Itl K a) ds B G where
  go := fun H i h hi => by
    have hl : i < vs.length := by rw [r.length]; exact hi
    exact ⟨vs, vs[i], h.sql s, by simp [hl]⟩
  stop := fun H h => ⟨vs, h.sql s, by rw [r.length]; exact Nat.le_refl _⟩
  yld := fun H G2 i x H' h g g2 hi y => by
    obtain ⟨e, y⟩ := y
    subst e
    obtain ⟨d, h1, h2⟩ := r.get' (y vs (h.sql s))
    exact ⟨d, G2, h1, Ext.refl g2, h2.mono g⟩
theorem walk_tup {K : PySem.W.Frag} {B G : Hp} {a : Addr} {ds : List D} {vs : List V} (s : SqT K B a vs) (r : RepL K G ds vs) : WalkOf K (Itt K a) ds B G where
  go := fun H i h hi => by
    have hl : i < vs.length := by rw [r.length]; exact hi
    exact ⟨vs, vs[i], h.sqt s, by simp [hl]⟩
  stop := fun H h => ⟨vs, h.sqt s, by rw [r.length]; exact Nat.le_refl _⟩
  yld := fun H G2 i x H' h g g2 hi y => by
    obtain ⟨e, y⟩ := y
    subst e
    obtain ⟨d, h1, h2⟩ := r.get' (y vs (h.sqt s))
    exact ⟨d, G2, h1, Ext.refl g2, h2.mono g⟩
theorem walk_range {K : PySem.W.Frag} {B G : Hp} (lo : Int) (n : Nat) : WalkOf K (Itr lo n) ((List.range n).map fun i => D.int (lo + (i : Nat))) B G where
  go := fun H i h hi => by
    show i < n
    simpa using hi
  stop := fun H h => by
    show n ≤ _
    simp
  yld := fun H G2 i x H' h g g2 hi y => by
    obtain ⟨e, y⟩ := y
    subst e
    have hi' : i < n := by simpa using hi
    exact ⟨.int (lo + i), G2, by simp [hi'], Ext.refl g2, y⟩
/-- over a list or tuple -/
def iSeq (f : Env → Res D) : Env → Res (List D) := fun e => (f e).bind fun d => match d with
  | .lst xs => .ok xs
  | .tup xs => .ok xs
  | .con xs => .ok xs
  | _ => .bad
/-- what is walked: a list or a tuple -/
def iSq (K : PySem.W.Frag) (te : TE) : TI := fun σ H R => te σ H fun x H1 => ∃ a, x = .ref a ∧ (((∃ xs, SqL K H1 a xs) ∧ R (Itl K a) H1) ∨ ((∃ xs, SqT K H1 a xs) ∧ R (Itt K a) H1))
theorem pi_sq {tg l : Expr} {tl : TE} (hl : PE X l tl) : PI X tg l (iSq X.K tl) := by
  refine ⟨fun pins s σ H R I h => ?_⟩
  refine thn (hl.run pins s σ H _ I h) fun v s1 ⟨x, H1, I1, r1, q1⟩ => ?_
  obtain ⟨a, e, q⟩ := q1
  subst e
  cases r1
  rcases q with ⟨⟨xs, hq⟩, q⟩ | ⟨⟨xs, hq⟩, q⟩
  · obtain ⟨its, rv, p, hz⟩ := I1.list hq
    refine wpAny_pyIter_list p.isList ?_
    refine ⟨s1.heap.objs.size, [s1.heap.objs.size], _, _, H1, rfl, I1.kept (t' := s1.toks) fun b o e => Heap.get?_push_of_some _ e, turn_list a _, ⟨_, Heap.get?_push_size _ rfl, rfl, rfl⟩, fun b hb => ?_, q⟩
    have e : b = s1.heap.objs.size := by simpa using hb
    subst e
    exact I1.fpOk (Nat.le_refl _) (I1.hok.fresh (Nat.le_refl _))
  · obtain ⟨its, rv, p, hz⟩ := I1.tuple hq
    refine wpAny_pyIter_tuple (show s1.heap.IsTuple a its.toArray from p) ?_
    refine ⟨s1.heap.objs.size, [s1.heap.objs.size], _, _, H1, rfl, I1.kept (t' := s1.toks) fun b o e => Heap.get?_push_of_some _ e, turn_tuple a _, ⟨_, Heap.get?_push_size _ rfl, rfl, rfl⟩, fun b hb => ?_, q⟩
    have e : b = s1.heap.objs.size := by simpa using hb
    subst e
    exact I1.fpOk (Nat.le_refl _) (I1.hok.fresh (Nat.le_refl _))
variable {A : Nat → Prop}
theorem di_seq {tg : Expr} {f : Env → Res D} (h : DE X W A ex f) : DI X W A tg ex (iSeq f) :=
  (pi_sq h).imp fun σ H Q ⟨e, G, E, p⟩ => ⟨e, G, E, p.split.imp fun d H1 G1 x1 p1 v rv => by
    cases d with
    | lst xs =>
      obtain ⟨a, vs, rfl, s, r⟩ := rv
      exact ⟨a, rfl, .inl ⟨⟨vs, x1.gh.sql s⟩, PostG.here (a := xs) p1 x1.gh _ (walk_list s r)⟩⟩
    | tup xs =>
      obtain ⟨a, vs, rfl, s, r⟩ := rv
      exact ⟨a, rfl, .inr ⟨⟨vs, x1.gh.pt s⟩, PostG.here (a := xs) p1 x1.gh _ (walk_tup (SqT.of s) r)⟩⟩
    | con xs =>
      obtain ⟨a, vs, rfl, s, r⟩ := rv
      exact ⟨a, rfl, .inr ⟨⟨vs, x1.gh.sqt s⟩, PostG.here (a := xs) p1 x1.gh _ (walk_tup s r)⟩⟩
    | _ => exact (show False from p1).elim⟩
/-- .. that is read alone (in a comprehension) -/
theorem dir_seq {tg : Expr} {f : Env → Res D} (h : DR X W A ex f) : DIR X W A tg ex (iSeq f) :=
  (pi_sq h).imp fun σ H Q ⟨e, G, E, p⟩ => ⟨e, G, E, p.split.imp fun d H1 G1 x1 p1 v rv => by
    cases d with
    | lst xs =>
      obtain ⟨a, vs, rfl, s, r⟩ := rv
      exact ⟨a, rfl, .inl ⟨⟨vs, s⟩, PostG.here (a := xs) p1 x1.gh _ (walk_list s r)⟩⟩
    | tup xs =>
      obtain ⟨a, vs, rfl, s, r⟩ := (show Rep X.K G1 (.tup xs) v from rv)
      exact ⟨a, rfl, .inr ⟨⟨vs, x1.gh.pt s⟩, PostG.here (a := xs) p1 x1.gh _ (walk_tup (x1.gh.pt s) r)⟩⟩
    | con xs =>
      obtain ⟨a, vs, rfl, s, r⟩ := (show Rep X.K G1 (.con xs) v from rv)
      exact ⟨a, rfl, .inr ⟨⟨vs, x1.gh.sqt s⟩, PostG.here (a := xs) p1 x1.gh _ (walk_tup (x1.gh.sqt s) r)⟩⟩
    | _ => exact (show False from p1).elim⟩
theorem WalkOf.low {K : PySem.W.Frag} {J : It} {ds : List D} {B B' G : Hp} (h : WalkOf K J ds B G) (s : Sub B B') : WalkOf K J ds B' G :=
  ⟨fun H i z => h.go H i (s.trans z), fun H z => h.stop H (s.trans z), fun H G2 i x H' z => h.yld H G2 i x H' (s.trans z)⟩
theorem dir_of {tg : Expr} {f : Env → Res (List D)} (h : DI X W A tg ex f) : DIR X W A tg ex f :=
  h.imp fun σ H Q ⟨e, G, E, p⟩ => ⟨e, G, E, p.imp fun ds H1 G1 x1 q J w => q J (w.low x1.gh)⟩
/-! ranges -/
def rangeD (lo hi : Int) : List D := (List.range (hi - lo).toNat).map fun i => D.int (lo + (i : Nat))
def iRange1 (f : Env → Res D) : Env → Res (List D) := fun e => (f e).bind fun d => match d with
  | .int n => if -(2 ^ 62) ≤ n ∧ n < 2 ^ 62 then .ok (rangeD 0 n) else .bad
  | _ => .bad
def iRange2 (f g : Env → Res D) : Env → Res (List D) := fun e => (f e).bind fun d => (g e).bind fun d2 => match d, d2 with
  | .int m, .int n => if -(2 ^ 62) ≤ m ∧ m < 2 ^ 62 ∧ -(2 ^ 62) ≤ n ∧ n < 2 ^ 62 then .ok (rangeD m n) else .bad
  | _, _ => .bad
theorem di_range1 {tg a : Expr} {p : Pos} {f : Env → Res D} (hg : Gl X "range") (hm : X.mg "range" = none) (ha : DE X W A a f) (hs : starEach [a] X.env = [(false, eval a X.env)] := by rfl) : DI X W A tg (.Call (.Name "range" p) [a] [] pos) (iRange1 f) :=
  (pi_range1 hg hm (pa_cons ha pa_nil hs) hs).imp fun σ H Q ⟨e, G, E, p⟩ => ⟨e, G, E, p.split.imp fun d H1 G1 x1 p1 v rv => by
    cases d with
    | int n =>
      have ev : v = .int n := rv
      subst ev
      dsimp only at p1
      by_cases hc : -(2 ^ 62) ≤ n ∧ n < 2 ^ 62
      · rw [if_pos hc] at p1
        refine ⟨n, rfl, hc.1, hc.2, p1.here x1.gh _ ?_⟩
        have : rangeD 0 n = (List.range n.toNat).map fun i => D.int (0 + (i : Nat)) := by unfold rangeD; rw [Int.sub_zero]
        rw [this]
        exact walk_range 0 n.toNat
      · rw [if_neg hc] at p1; exact p1.elim
    | _ => exact (show False from p1).elim⟩
/-! ### for -/
theorem StOk.step {K : PySem.W.Frag} {σ : L2.St} {e : Env} {H G H' G' : Hp} (S2 : StOk K H0 G0 σ e H G) (x3 : Ext H G H' G') : StOk K H0 G0 σ e H' G' := by
  refine ⟨S2.ext.trans x3, S2.len, fun j d' h => ?_, fun j d' h => ?_, S2.ne, S2.pn⟩
  · obtain ⟨v, w1, w2⟩ := S2.sh j d' h
    exact ⟨v, w1, w2.mono x3.gg⟩
  · obtain ⟨a, w1, w2, w3, w4⟩ := S2.ow j d' h
    refine ⟨a, w1, w2, ?_, w4.mono x3.hh x3.gg⟩
    cases hga : G' a with
    | none => rfl
    | some u =>
      rcases x3.new a (by rw [hga]; simp) with z | z
      · exact absurd w3 z
      · exact absurd z w4.nfr
theorem Ext.down {H G1 H1 G G' H' : Hp} (x : Ext H G H' G') (y : Ext H G1 H1 G) : Ext H G1 H' G' :=
  ⟨x.hh, y.gg.trans x.gg, x.gh, fun b z => by
    rcases x.new b z with z | z
    · exact y.new b z
    · exact .inr z⟩
theorem StOk.down {K : PySem.W.Frag} {σ : L2.St} {e : Env} {H G H1 G1 : Hp} (S : StOk K H0 G1 σ e H G) (y : Ext H0.hp G0 H1 G1) : StOk K H0 G0 σ e H G := ⟨S.ext.down y, S.len, S.sh, S.ow, S.ne, S.pn⟩
theorem StOk.up {K : PySem.W.Frag} {σ : L2.St} {e : Env} {H G G1 : Hp} (S : StOk K H0 G0 σ e H G) (s : Sub G1 G) (h : ∀ b, G b ≠ none → G1 b ≠ none ∨ Fr1 H0.hp b := by exact fun b z => .inl z) : StOk K H0 G1 σ e H G := ⟨⟨S.ext.hh, s, S.ext.gh, h⟩, S.len, S.sh, S.ow, S.ne, S.pn⟩
/-- the turns -/
def turns (p : Pat) (body : Env → Out) : List D → Env → Out
  | [], e => .nx e
  | d :: ds, e => match p.bind d e with
    | .ok e1 => match body e1 with
      | .nx e2 => turns p body ds e2
      | .ct e2 => turns p body ds e2
      | .bk e2 => .nx e2
      | .rt d => .rt d
      | .ro d => .ro d
      | .rm d e2 => .rm d e2
      | .ex c fs e2 => .ex c fs e2
      | .bad => .bad
    | _ => .bad
def sFor (al : List Nat) (p : Pat) (fi : Env → Res (List D)) (body : Env → Out) : Env → Out := sE al fi fun ds e => turns p body ds e
theorem ds_for {tg iter : Expr} {body : List Stmt} {p : Pat} {fi : Env → Res (List D)} {fb : Env → Out} (hp : PassesOwn (model X.prog X.w) X.A X.env X.xe) (hc : X.calm = true) (hi : DI X W (fun i => i ∈ al) tg iter fi) (hg : DG X tg p) (hb : ∀ G1, DSs X W H0 G1 body fb)
    (hs : ∀ x, foldedSetIterable iter X.env x = pure x := by intro _; rfl) : DS X W H0 G0 (.For tg iter body [] pos) (sFor al p fi fb) := by
  obtain ⟨g, g1, g2⟩ := hg
  -- the body's reading, whatever stays through it
  have hb' : PSs X body fun Z σ H => ∃ G1, tS X.K X.mg W H0 G1 fb Z σ H := ⟨fun pins s σ H D I ⟨G1, q⟩ => (hb G1).run pins s σ H D I q⟩
  refine (ps_for hp hc hi g1 hb' hs).lk fun Z σ H hq => (sE_step hq).imp fun H ⟨e, G, E, p1⟩ => ?_
  refine ⟨e, G, E, p1.imp fun ds H1 G1 x1 ⟨S1, q1⟩ J w => ?_⟩
  -- what holds between the turns
  refine ⟨fun i m σ2 H2 => m = ds.length - i ∧ i ≤ ds.length ∧ ∃ e2 G2, StOk X.K H0 G0 σ2 e2 H2 G2 ∧ Sub G1 G2 ∧ SPost X.K X.mg W H0 G0 (turns p fb (ds.drop i) e2) Z,
    ⟨ds.length, rfl, Nat.zero_le _, fz al e, G1, S1, Sub.refl _, q1⟩, ?_⟩
  rintro i m σ2 H2 ⟨rfl, hi, e2, G2, S2, g12, q2⟩
  by_cases hlt : i < ds.length
  · refine .inr ⟨w.go H2 i (g12.trans S2.ext.gh) hlt, fun σ3 H3 => ∃ e3 G3, StOk X.K H0 G0 σ3 e3 H3 G3 ∧ Sub G1 G3 ∧ SPost X.K X.mg W H0 G0 (turns p fb (ds.drop (i + 1)) e3) Z, ?_, ?_⟩
    · rintro σ3 H3 ⟨e3, G3, S3, g13, q3⟩
      exact ⟨ds.length - (i + 1), by omega, rfl, hlt, e3, G3, S3, g13, q3⟩
    · intro x H3 y
      obtain ⟨d, G3, hd, x3, rd⟩ := w.yld H2 G2 i x H3 (g12.trans S2.ext.gh) g12 S2.ext.gh hlt y
      have S3 : StOk X.K H0 G0 σ2 e2 H3 G3 := S2.step x3
      have e0 : ds.drop i = d :: ds.drop (i + 1) := by
        rw [List.drop_eq_getElem_cons hlt]
        have : ds[i] = d := by
          have := List.getElem?_eq_getElem hlt
          rw [hd] at this
          exact (Option.some.inj this).symm
        rw [this]
      rw [e0] at q2
      dsimp only [turns] at q2
      cases hb : p.bind d e2 with
      | exc c fs => rw [hb] at q2; exact q2.elim
      | bad => rw [hb] at q2; exact q2.elim
      | ok e3 =>
        rw [hb] at q2
        dsimp only at q2
        refine g2 _ st_setable x σ2 H3 G3 d e2 e3 _ S3 S3.ext.gh rd hb fun σ4 S4 => ⟨G3, e3, G3, S4.up (Sub.refl _), ?_⟩
        have g14 : Sub G1 G3 := g12.trans x3.gg
        cases hr : fb e3 with
        | nx e4 =>
          rw [hr] at q2
          exact fun σ5 H5 G5 S5 => ⟨e4, G5, S5.down S4.ext, g14.trans S5.ext.gg, q2⟩
        | ct e4 =>
          rw [hr] at q2
          exact fun σ5 H5 G5 S5 => ⟨e4, G5, S5.down S4.ext, g14.trans S5.ext.gg, q2⟩
        | bk e4 => rw [hr] at q2; exact fun σ5 H5 G5 S5 => q2 σ5 H5 G5 (S5.down S4.ext)
        | rt d => rw [hr] at q2; exact fun v H5 G5 x5 => q2 v H5 G5 (x5.down S4.ext)
        | ro d => rw [hr] at q2; exact fun a H5 G5 x5 => q2 a H5 G5 (x5.down S4.ext)
        | rm d e4 => rw [hr] at q2; exact fun v σ5 H5 G5 S5 => q2 v σ5 H5 G5 (S5.down S4.ext)
        | ex c fs e4 => rw [hr] at q2; exact fun cls o σ5 H5 G5 H6 S5 => q2 cls o σ5 H5 G5 H6 (S5.down S4.ext)
        | bad => rw [hr] at q2; exact q2.elim
  · have ei : i = ds.length := by omega
    subst ei
    refine .inl ⟨w.stop H2 (g12.trans S2.ext.gh), ?_⟩
    rw [List.drop_length] at q2
    exact q2 σ2 H2 G2 S2
end
end DL

namespace DL
open PySem PySem.Spec PyProof.Rows L2
open PySem.Builtin.Int (intBits)

/-! ### while -/
section
variable {X : Cx} {W : WX} {H0 : Bas} {G0 : Hp} {al : List Nat} {ex : Expr} {es : List Expr} {pos apos cpos p1 p2 : Pos}
/-! ### calls of defs -/
/-- what a def of so many parameters promises: what F says -/
def spD (K : PySem.W.Frag) (mg : Str → Option Value) (n : Nat) (F : List D → Res D) : Sp := fun vs H Q E => vs.length = n ∧ ∃ ds G, Sub G H ∧ RepL K G ds vs ∧ PostG K mg E H G (F ds) fun d H' G' => ∀ v, Rep K G' d v → Q v H'
structure CallOk (P : Program) (w : World) (K : PySem.W.Frag) (mg : Str → Option Value) (base : Heap) (k : Nat) (x : Str) (ps : List Str) (F : List D → Res D) : Prop where
  ok : ∃ f fd, mg x = some (.ref f) ∧ PySem.W.keepIn K (.ref f) = true ∧ Binds K fd ps [] ∧ FnOk P w K mg base (L2.CX P w) k f fd ps (spD K mg ps.length F)
def eCall (F : List D → Res D) (fs : Env → Res (List D)) : Env → Res D := fun e => (fs e).bind F
theorem de_call {A : Nat → Prop} {x : Str} {p : Pos} {k : Nat} {ps : List Str} {F : List D → Res D} {fs : Env → Res (List D)} (c : CallOk X.prog X.w X.K X.mg X.base k x ps F) (hr : Room k X.A) (hg : Gl X x) (tk : Takes X W) (ha : DA X W A (ex :: es) fs) (hl : LenIs fs ps.length) (hl2 : ∀ e ds, fs e = .ok ds → ps.length ≤ ds.length)
    (hdb : (x == ("__debug__" : Str)) = false := by decide) (he : starEach (ex :: es) X.env = (false, eval ex X.env) :: starEach es X.env := by rfl) (hpl : (backTo pos (starEach es X.env)).any (·.1) = false := by rfl) :
    DE X W A (.Call (.Name x p) (ex :: es) [] pos) (eCall F fs) := by
  obtain ⟨f, fd, hm, hk, hb, hF⟩ := c.ok
  refine (pe_callS hF hr hg hm hk hb (fun σ => passAt tk σ) ha hdb he hpl).imp fun σ H Q ⟨e, G, E, p⟩ => ⟨e, G, E, p.split.ifok fun ds H1 G1 hk x1 p1 vs rs => ?_⟩
  exact ⟨by rw [rs.length]; exact Nat.le_antisymm (hl e ds hk) (hl2 e ds hk), ds, G1, x1.gh, rs, p1⟩
/-- .. exactly so long -/
def LenEq (fs : Env → Res (List D)) (n : Nat) : Prop := ∀ e ds, fs e = .ok ds → ds.length = n
theorem leq_nil : LenEq aNil 0 := fun e ds h => by cases h; rfl
theorem leq_cons {f : Env → Res D} {fs : Env → Res (List D)} {n : Nat} (h : LenEq fs n) : LenEq (aCons f fs) (n + 1) := fun e ds q => by
  unfold aCons at q
  cases hf : f e with
  | ok d =>
    rw [hf] at q
    cases hs : fs e with
    | ok es => rw [hs] at q; cases q; exact congrArg (· + 1) (h e es hs)
    | exc c x => rw [hs] at q; cases q
    | bad => rw [hs] at q; cases q
  | exc c x => rw [hf] at q; cases q
  | bad => rw [hf] at q; cases q
theorem de_callE {A : Nat → Prop} {x : Str} {p : Pos} {k : Nat} {ps : List Str} {F : List D → Res D} {fs : Env → Res (List D)} (c : CallOk X.prog X.w X.K X.mg X.base k x ps F) (hr : Room k X.A) (hg : Gl X x) (tk : Takes X W) (ha : DA X W A (ex :: es) fs) (hl : LenEq fs ps.length)
    (hdb : (x == ("__debug__" : Str)) = false := by decide) (he : starEach (ex :: es) X.env = (false, eval ex X.env) :: starEach es X.env := by rfl) (hpl : (backTo pos (starEach es X.env)).any (·.1) = false := by rfl) :
    DE X W A (.Call (.Name x p) (ex :: es) [] pos) (eCall F fs) := de_call c hr hg tk ha (fun e ds h => Nat.le_of_eq (hl e ds h)) (fun e ds h => Nat.le_of_eq (hl e ds h).symm) hdb he hpl

/-! ### a def keeps its promise -/
def env0 (n m : Nat) (ds : List D) : Env := ds.map (fun d => some (d, false)) ++ List.replicate (m - n) none
def runDef (n m : Nat) (fb : Env → Out) : List D → Res D := fun ds => match fb (env0 n m ds) with
  | .rt d => .ok d
  | .ro d => .ok d
  | .rm d _ => .ok d
  | .nx _ => .ok .non
  | .ex c fs _ => .exc c fs
  | _ => .bad
abbrev wE (E : XK) : WX := fun cls o _ H => E cls o H
theorem fnD {P : Program} {w : World} {K : PySem.W.Frag} {mg : Str → Option Value} {base : Heap} {x qual : Str} {st : Stmt} {f : Addr} {fd : FuncData} {N ps : List Str} {k : Nat} {fb : Env → Out} (F : Fun K x qual st f fd) (S : FnScope N ps (defScope st))
    (hbody : ∀ (cdv : Value) (A : Around) (outer : List PySem.Env) (s : Shared) (H G : Hp) (E : XK), Room k (A.deeper (envOfC qual (defScope st) s.heap.objs.size f cdv)) →
      Takes (cxOf (L2.CX P w) P w K mg base N qual (defScope st) f cdv A outer s H E) (wE E) → PassesOwn (model P w) (A.deeper (envOfC qual (defScope st) s.heap.objs.size f cdv)) (envOfC qual (defScope st) s.heap.objs.size f cdv) (cxOf (L2.CX P w) P w K mg base N qual (defScope st) f cdv A outer s H E).xe →
      DSs (cxOf (L2.CX P w) P w K mg base N qual (defScope st) f cdv A outer s H E) (wE E) (Bas.of H) G (defBody st) fb) :
    FnOk P w K mg base (L2.CX P w) (k + 1) f fd ps (spD K mg ps.length (runDef ps.length N.length fb)) := by
  refine F.okX S (fun vs H Q E h => h.1) fun cdv A outer s H vs Q E hr h => ?_
  obtain ⟨hl, ds, G, sg, r, p⟩ := h
  refine ⟨_, (hbody cdv A outer s H G E hr (takes_of rfl rfl rfl rfl) (passes_of rfl)).lkR (fun D σ H q => q), ?_⟩
  show tS _ _ _ _ _ _ _ _ _
  refine ⟨env0 ps.length N.length ds, G, ?_, ?_⟩
  · have hps : ps.length ≤ N.length := by have := congrArg List.length S.pre; rw [List.length_take] at this; omega
    have hdl := r.length
    have get : ∀ (i : Nat) (d : D) (o : Bool), (env0 ps.length N.length ds)[i]? = some (some (d, o)) → o = false ∧ ds[i]? = some d := fun i d o h => by
      unfold env0 at h
      by_cases hi : i < ds.length
      · rw [List.getElem?_append_left (by simpa using hi), List.getElem?_map] at h
        cases q : ds[i]? with
        | none => rw [q] at h; cases h
        | some d' => rw [q] at h; cases h; exact ⟨rfl, rfl⟩
      · rw [List.getElem?_append_right (by simpa using hi), List.getElem?_replicate] at h
        split at h <;> cases h
    refine ⟨⟨Sub.refl _, Sub.refl _, sg, fun b z => .inl z⟩, ?_, fun i d h => ?_, fun i d h => ?_, fun i j d d' a h => ?_, fun i a d h => by cases h⟩
    · unfold L2.start env0
      simp only [List.length_append, List.length_map, List.length_replicate]
      omega
    · obtain ⟨_, h2⟩ := get i d false h
      obtain ⟨v, h3, h4⟩ := r.get h2
      refine ⟨v, ?_, h4⟩
      have hi : i < vs.length := (List.getElem?_eq_some_iff.mp h3).1
      unfold L2.start
      rw [List.getElem?_append_left (by simpa using hi), List.getElem?_map, h3]
      rfl
    · exact absurd (get i d true h).1 (by simp)
    · exact absurd (get i d true h).1 (by simp)
  · unfold runDef at p
    cases hr : fb (env0 ps.length N.length ds) with
    | rt d =>
      rw [hr] at p
      exact fun v H' G' x r => .here (p H' G' x v r)
    | ro d =>
      rw [hr] at p
      intro a H' G' x ha ga rc
      exact (own_lock x ha ga rc).imp fun H2 ⟨G2, y, r⟩ => p H2 G2 y _ r
    | nx e' =>
      rw [hr] at p
      exact fun σ' H' G' S' => p H' G' S'.ext .non rfl
    | ex c fs e' =>
      rw [hr] at p
      exact fun cls o σ' H' G' H2 S' s2 ix => p cls o H2 (S'.ext.hh.trans s2) ix
    | rm d e' =>
      rw [hr] at p
      exact fun v σ' H' G' S' r => .here (p H' G' S'.ext v r)
    | bk e' => rw [hr] at p; exact p.elim
    | ct e' => rw [hr] at p; exact p.elim
    | bad => rw [hr] at p; exact p.elim
/-- where nothing is promised -/
theorem fn_bad {P : Program} {w : World} {K : PySem.W.Frag} {mg : Str → Option Value} {base : Heap} {f : Addr} {fd : FuncData} {ps : List Str} {k : Nat} {F : List D → Res D} (h : ∀ ds, F ds = .bad) : FnOk P w K mg base (L2.CX P w) k f fd ps (spD K mg ps.length F) :=
  ⟨fun vs H Q E h => h.1, fun A outer s H args us vs Q E _ _ _ _ ⟨_, ds, G, _, _, p⟩ => by rw [h ds] at p; exact p.elim⟩
end
end DL

namespace DL
open PySem PySem.Spec PyProof.Rows L2
open PySem.Builtin.Int (intBits)

/-! ### comprehensions -/
def wipeE (e : Env) : List Nat → Env
  | [] => e
  | v :: vs => (wipeE e vs).set v none
theorem wipeE_length (e : Env) : ∀ vs : List Nat, (wipeE e vs).length = e.length
  | [] => rfl
  | v :: vs => by unfold wipeE; rw [List.length_set, wipeE_length e vs]
theorem wipe_other {σ : L2.St} {i : Nat} : ∀ {vs : List Nat}, i ∉ vs → (wipe σ vs)[i]? = σ[i]?
  | [], _ => rfl
  | v :: vs, h => by
    unfold wipe
    rw [List.getElem?_set_ne (fun z => h (by simp [z])), wipe_other (fun z => h (by simp [z]))]
theorem wipeE_get {e : Env} {i : Nat} {x : D × Bool} : ∀ {vs : List Nat}, (wipeE e vs)[i]? = some (some x) → e[i]? = some (some x) ∧ i ∉ vs
  | [], h => ⟨h, by simp⟩
  | v :: vs, h => by
    unfold wipeE at h
    rcases set_get h with ⟨_, z⟩ | ⟨hi, z⟩
    · cases z
    · obtain ⟨a, b⟩ := wipeE_get z
      exact ⟨a, by simp [hi, b]⟩
theorem wipe_set {σ : L2.St} {i : Nat} {x : Option V} : ∀ {vs : List Nat}, i ∈ vs → wipe (σ.set i x) vs = wipe σ vs
  | [], h => by simp at h
  | v :: vs, h => by
    unfold wipe
    by_cases hv : i ∈ vs
    · rw [wipe_set hv]
    · have e : i = v := by simpa [hv] using h
      subst e
      have key : ∀ (ws : List Nat) (τ : L2.St), i ∉ ws → wipe (τ.set i x) ws = (wipe τ ws).set i x := by
        intro ws
        induction ws with
        | nil => intro τ _; rfl
        | cons w ws ih =>
          intro τ hw
          unfold wipe
          rw [ih τ (fun z => hw (by simp [z])), List.set_comm _ _ (fun z => hw (by simp [z]))]
      rw [key vs σ hv, List.set_set]
theorem wipe_idem {σ : L2.St} : ∀ (vs : List Nat), wipe (wipe σ vs) vs = wipe σ vs := by
  have swap : ∀ (ws : List Nat) (τ : L2.St) (i : Nat), wipe (τ.set i none) ws = (wipe τ ws).set i none := by
    intro ws
    induction ws with
    | nil => intro τ i; rfl
    | cons w ws ih =>
      intro τ i
      unfold wipe
      rw [ih]
      by_cases h : i = w
      · subst h; rfl
      · rw [List.set_comm _ _ h]
  intro vs
  induction vs with
  | nil => rfl
  | cons v vs ih =>
    show (wipe ((wipe σ vs).set v none) vs).set v none = (wipe σ vs).set v none
    rw [swap, ih, List.set_set]
theorem EnvG.wipe {K : PySem.W.Frag} {A : Nat → Prop} {σ : L2.St} {e : Env} {H G : Hp} (h : EnvG K A σ e H G) (vs : List Nat) : EnvG K A (L2.wipe σ vs) (wipeE e vs) H G :=
  ⟨h.sub, by rw [wipe_length, wipeE_length]; exact h.len, fun i d o hi => by
    obtain ⟨a, b⟩ := wipeE_get hi
    rw [wipe_other b]
    exact h.val i d o a⟩
theorem EnvG.set {K : PySem.W.Frag} {A : Nat → Prop} {σ : L2.St} {e : Env} {H G : Hp} (h : EnvG K A σ e H G) (i : Nat) {d : D} {v : V} (r : Rep K G d v) : EnvG K A (σ.set i (some v)) (e.set i (some (d, false))) H G :=
  ⟨h.sub, by rw [List.length_set, List.length_set]; exact h.len, fun j d' o hj => by
    rcases set_get hj with ⟨rfl, z⟩ | ⟨hij, z⟩
    · cases z
      have hl : j < e.length := by
        by_cases hl : j < e.length
        · exact hl
        · rw [List.getElem?_eq_none (by simpa using hl)] at hj; cases hj
      exact ⟨v, List.getElem?_set_self (by rw [h.len]; exact hl), fun _ => r, r.c h.sub⟩
    · rw [List.getElem?_set_ne (Ne.symm hij)]
      exact h.val j d' o z⟩
/-- the items: what is walked, by the pattern, where the test holds -/
def compL (e : Env) (p : Pat) (ft : Env → Res Bool) (fe : Env → Res D) : List D → Res (List D)
  | [] => .ok []
  | d :: ds => match p.bind d e with
    | .ok e1 => match ft e1 with
      | .ok true => match fe e1 with
        | .ok y => (compL e p ft fe ds).bind fun ys => .ok (y :: ys)
        | _ => .bad
      | .ok false => compL e p ft fe ds
      | _ => .bad
    | _ => .bad
def bYes : Env → Res Bool := fun _ => .ok true
def eComp (own : List Nat) (p : Pat) (fi : Env → Res (List D)) (ft : Env → Res Bool) (fe : Env → Res D) : Env → Res D := fun e => (fi e).bind fun ds => if ds.length ≤ sizeLine then (match compL (wipeE e own) p ft fe ds with
  | .ok ys => .ok (.lst ys)
  | _ => .bad) else .bad
abbrev WF : WX := fun _ _ _ _ => False
abbrev DTs (X : Cx) (A : Nat → Prop) (ifs : List Expr) (f : Env → Res Bool) : Prop := PTs X ifs (tT X.K X.mg WF A f)
theorem dts_nil {X : Cx} {A : Nat → Prop} : DTs X A [] bYes := ⟨fun pins s σ H Q I ⟨e, G, E, p⟩ => pts_nil.run pins s σ H Q I (p.here E.sub)⟩
theorem dts_one {X : Cx} {A : Nat → Prop} {c : Expr} {f : Env → Res Bool} (h : DT X WF A c f) : DTs X A [c] f := pts_one h
/-- the reading of a comprehension, from the data's -/
theorem comp_imp {K : PySem.W.Frag} {mg : Str → Option Value} {W : WX} {A : Nat → Prop} {own : List Nat} {p : Pat} {fi : Env → Res (List D)} {ft : Env → Res Bool} {fe : Env → Res D} {g : TG} (hsl : ∀ i ∈ p.slots, i ∈ own)
    (hg : ∀ (R : L2.St → Env → Hp → Hp → Prop), Setable K p.slots R → ∀ (v : V) (σ : L2.St) (H G : Hp) (d : D) (e e' : Env) (Q : L2.St → Hp → Prop), R σ e H G → Sub G H → Rep K G d v → p.bind d e = .ok e' → (∀ σ', R σ' e' H G → Q σ' H) → g v σ H Q)
    (σ : L2.St) (H : Hp) (Q : VK) (q : tF K mg W A (eComp own p fi ft fe) σ H Q) : tLc (tIR K mg W A fi) g (tT K mg WF A ft) (tD K mg WF A fe) own σ H Q := by
  obtain ⟨e, G, E, pp⟩ := q
  refine ⟨e, G, E, pp.split.imp fun ds H1 G1 x1 p1 J w D0 hD => ?_⟩
  have E1 := E.ext x1
  by_cases hz : ds.length ≤ sizeLine
  · rw [if_pos hz] at p1
    cases hc : compL (wipeE e own) p ft fe ds with
    | exc c fs => rw [hc] at p1; exact p1.elim
    | bad => rw [hc] at p1; exact p1.elim
    | ok total =>
      rw [hc] at p1
      have gD : G1 D0 = none := x1.gh.free hD
      refine ⟨fun i m H2 => m = ds.length - i ∧ i ≤ ds.length ∧ ∃ (G2 : Hp) (acc : List D) (accV : List V) (rest : List D), Ext H1 G1 H2 G2 ∧ G2 D0 = none ∧ H2 D0 = some (.lst accV) ∧ RepL K G2 acc accV ∧ acc.length ≤ i ∧ compL (wipeE e own) p ft fe (ds.drop i) = .ok rest ∧ acc ++ rest = total,
        ⟨ds.length, rfl, Nat.zero_le _, G1, [], [], total, ⟨Sub.upd hD, Sub.refl _, x1.gh.trans (Sub.upd hD), fun b z => .inl z⟩, gD, upd_same, rfl, Nat.zero_le _, hc, rfl⟩, ?_⟩
      rintro i m H2 ⟨rfl, hi, G2, acc, accV, rest, x2, g2, h2, r2, ha, hr, ht⟩
      by_cases hlt : i < ds.length
      · refine .inr ⟨w.go H2 i x2.hh hlt, fun H3 => ∃ (G3 : Hp) (acc : List D) (accV : List V) (rest : List D), Ext H1 G1 H3 G3 ∧ G3 D0 = none ∧ H3 D0 = some (.lst accV) ∧ RepL K G3 acc accV ∧ acc.length ≤ i + 1 ∧ compL (wipeE e own) p ft fe (ds.drop (i + 1)) = .ok rest ∧ acc ++ rest = total, fun H3 h => ⟨ds.length - (i + 1), by omega, rfl, hlt, h⟩, fun x H3 y => ?_⟩
        obtain ⟨d, G3, hd, x3, rd⟩ := w.yld H2 G2 i x H3 x2.hh x2.gg x2.gh hlt y
        have x13 := x2.trans x3
        have n3 : ∀ {H' G' : Hp}, Ext H2 G2 H' G' → G' D0 = none := fun {H' G'} x => by
          cases hga : G' D0 with
          | none => rfl
          | some u =>
            rcases x.new D0 (by rw [hga]; simp) with z | z
            · exact absurd g2 z
            · rcases z with z | ⟨_, z⟩ <;> (rw [h2] at z; cases z)
        have e0 : ds.drop i = d :: ds.drop (i + 1) := by
          rw [List.drop_eq_getElem_cons hlt]
          have : ds[i] = d := by
            have := List.getElem?_eq_getElem hlt
            rw [hd] at this
            exact (Option.some.inj this).symm
          rw [this]
        rw [e0] at hr
        dsimp only [compL] at hr
        cases hb : p.bind d (wipeE e own) with
        | exc c fs => rw [hb] at hr; cases hr
        | bad => rw [hb] at hr; cases hr
        | ok e1 =>
          rw [hb] at hr
          dsimp only at hr
          refine hg (fun σ' e' H' G' => EnvG K A σ' e' H' G' ∧ L2.wipe σ' own = L2.wipe σ own) (fun σ' e' H' G' j d' v hj ⟨R1, R2⟩ r => ⟨R1.set j r, by rw [wipe_set (hsl j hj)]; exact R2⟩) x (L2.wipe σ own) H3 G3 d (wipeE e own) e1 _ ⟨(E1.ext x13).wipe own, wipe_idem own⟩ x3.gh rd hb fun σ' ⟨R1, R2⟩ => ⟨R2, e1, G3, R1, ?_⟩
          cases hft : ft e1 with
          | exc c fs => rw [hft] at hr; cases hr
          | bad => rw [hft] at hr; cases hr
          | ok b =>
            rw [hft] at hr
            intro H4 G4 x4
            cases b with
            | false =>
              dsimp only at hr ⊢
              rw [if_neg Bool.false_ne_true]
              exact ⟨G4, acc, accV, rest, x13.trans x4, n3 (x3.trans x4), x4.hh _ _ (x3.hh _ _ h2), (r2.mono x3.gg).mono x4.gg, Nat.le_succ_of_le ha, hr, ht⟩
            | true =>
              dsimp only at hr ⊢
              rw [if_pos rfl]
              refine ⟨e1, G4, R1.ext x4, ?_⟩
              cases hfe : fe e1 with
              | exc c fs => rw [hfe] at hr; cases hr
              | bad => rw [hfe] at hr; cases hr
              | ok y =>
                rw [hfe] at hr
                dsimp only at hr
                intro H5 G5 x5 yv ry
                cases hcr : compL (wipeE e own) p ft fe (ds.drop (i + 1)) with
                | exc c fs => rw [hcr] at hr; cases hr
                | bad => rw [hcr] at hr; cases hr
                | ok rest' =>
                  rw [hcr] at hr
                  cases hr
                  have x25 := (x3.trans x4).trans x5
                  have x15 := x2.trans x25
                  have n5 := n3 x25
                  have h5 := x25.hh _ _ h2
                  refine ⟨accV, h5, ?_, G5, acc ++ [y], accV ++ [yv], rest', ⟨fun b o z => ?_, x15.gg, fun b o z => ?_, x15.new⟩, n5, upd_same, (r2.mono x25.gg).append (.cons ry rfl), ?_, rfl, ?_⟩
                  · rw [r2.length]; omega
                  · have nb : b ≠ D0 := fun q => by rw [q, hD] at z; cases z
                    rw [upd_ne nb]; exact x15.hh _ _ z
                  · have nb : b ≠ D0 := fun q => by rw [q, n5] at z; cases z
                    rw [upd_ne nb]; exact x15.gh _ _ z
                  · rw [List.length_append, List.length_singleton]; omega
                  · rw [← ht, List.append_assoc]; rfl
      · have ei : i = ds.length := by omega
        subst ei
        refine .inl ⟨w.stop H2 x2.hh, ?_⟩
        rw [List.drop_length] at hr
        cases hr
        rw [List.append_nil] at ht
        subst ht
        exact p1 H2 G2 x2 D0 (x1.hh.free hD) g2 ⟨accV, h2, r2⟩
  · rw [if_neg hz] at p1; exact p1.elim
section
variable {X : Cx} {W : WX} {H0 : Bas} {G0 : Hp} {A : Nat → Prop} {al : List Nat} {pos spos : Pos}
theorem df_comp {elt tg iter : Expr} {ifs : List Expr} {scope : Scope} {own : List (Str × Nat)} {p : Pat} {fi : Env → Res (List D)} {ft : Env → Res Bool} {fe : Env → Res D} (hc : X.calm = true) (hN : X.N.Nodup) (hi : DIR X W A tg iter fi) (ok : BlkOk X.N X.env.scope scope own)
    (hg : ∀ (s : Shared) (H : Hp) (C : Addr) (cl : List (Str × Addr)) (fp : List Addr), DG (X.blk s H scope (compEnvC scope cl C X.env) fp) tg p) (ht : ∀ (s : Shared) (H : Hp) (C : Addr) (cl : List (Str × Addr)) (fp : List Addr), DTs (X.blk s H scope (compEnvC scope cl C X.env) fp) A ifs ft)
    (he : ∀ (s : Shared) (H : Hp) (C : Addr) (cl : List (Str × Addr)) (fp : List Addr), DE (X.blk s H scope (compEnvC scope cl C X.env) fp) WF A elt fe) (hsl : ∀ i ∈ p.slots, i ∈ own.map (·.2)) (hs : ∀ x, foldedSetIterable iter X.env x = pure x := by intro _; rfl) :
    DF X W A (.ListComp elt [⟨tg, iter, ifs, 0⟩] scope pos) (eComp (own.map (·.2)) p fi ft fe) := by
  let g0 : TG := fun v σ H Q => ∃ (R : L2.St → Env → Hp → Hp → Prop) (G : Hp) (d : D) (e e' : Env), Setable X.K p.slots R ∧ R σ e H G ∧ Sub G H ∧ Rep X.K G d v ∧ p.bind d e = .ok e' ∧ ∀ σ', R σ' e' H G → Q σ' H
  have hg' : ∀ (s : Shared) (H : Hp) (C : Addr) (cl : List (Str × Addr)) (fp : List Addr), PG (X.blk s H scope (compEnvC scope cl C X.env) fp) tg g0 := fun s H C cl fp => by
    obtain ⟨g, g1, g2⟩ := hg s H C cl fp
    exact ⟨fun pins s σ H v u Q I r ⟨R, G, d, e, e', a1, a2, a3, a4, a5, a6⟩ => g1.run pins s σ H v u Q I r (g2 R a1 v σ H G d e e' Q a2 a3 a4 a5 a6)⟩
  exact (pe_lc hc hN hi ok hg' ht he hs).imp (comp_imp (mg := X.mg) hsl fun R hR v σ H G d e e' Q a1 a2 a3 a4 a5 => ⟨R, G, d, e, e', hR, a1, a2, a3, a4, a5⟩)
/-- y = [..] -/
theorem ds_comp {i : Nat} {y : Str} {py : Pos} {elt tg iter : Expr} {ifs : List Expr} {scope : Scope} {own : List (Str × Nat)} {p : Pat} {fi : Env → Res (List D)} {ft : Env → Res Bool} {fe : Env → Res D} (fresh : Bool) (hc : X.calm = true) (hN : X.N.Nodup) (hy : X.N[i]? = some y) (hyl : X.env.scope.names.lookup y = some .local)
    (hsw : swapsWith (.ListComp elt [⟨tg, iter, ifs, 0⟩] scope pos) (some (.Name y py)) spos.line X.env = pure true) (hi : DIR X W (fun i => i ∈ al) tg iter fi) (ok : BlkOk X.N X.env.scope scope own)
    (hg : ∀ (s : Shared) (H : Hp) (C : Addr) (cl : List (Str × Addr)) (fp : List Addr), DG (X.blk s H scope (compEnvC scope cl C X.env) fp) tg p) (ht : ∀ (s : Shared) (H : Hp) (C : Addr) (cl : List (Str × Addr)) (fp : List Addr), DTs (X.blk s H scope (compEnvC scope cl C X.env) fp) (fun i => i ∈ al) ifs ft)
    (he : ∀ (s : Shared) (H : Hp) (C : Addr) (cl : List (Str × Addr)) (fp : List Addr), DE (X.blk s H scope (compEnvC scope cl C X.env) fp) WF (fun i => i ∈ al) elt fe) (hsl : ∀ i ∈ p.slots, i ∈ own.map (·.2)) (hs : ∀ x, foldedSetIterable iter X.env x = pure x := by intro _; rfl) (hpin : H0.pin i = none := by rfl) :
    DS X W H0 G0 (.Assign [.Name y py] (.ListComp elt [⟨tg, iter, ifs, 0⟩] scope pos) spos) (if fresh = true then sSetF al i (eComp (own.map (·.2)) p fi ft fe) else sSet al i (eComp (own.map (·.2)) p fi ft fe)) := by
  let g0 : TG := fun v σ H Q => ∃ (R : L2.St → Env → Hp → Hp → Prop) (G : Hp) (d : D) (e e' : Env), Setable X.K p.slots R ∧ R σ e H G ∧ Sub G H ∧ Rep X.K G d v ∧ p.bind d e = .ok e' ∧ ∀ σ', R σ' e' H G → Q σ' H
  have hg' : ∀ (s : Shared) (H : Hp) (C : Addr) (cl : List (Str × Addr)) (fp : List Addr), PG (X.blk s H scope (compEnvC scope cl C X.env) fp) tg g0 := fun s H C cl fp => by
    obtain ⟨g, g1, g2⟩ := hg s H C cl fp
    exact ⟨fun pins s σ H v u Q I r ⟨R, G, d, e, e', a1, a2, a3, a4, a5, a6⟩ => g1.run pins s σ H v u Q I r (g2 R a1 v σ H G d e e' Q a2 a3 a4 a5 a6)⟩
  have h1 := ps_setLc (tt := tT X.K X.mg WF (fun i => i ∈ al) ft) (te := tD X.K X.mg WF (fun i => i ∈ al) fe) hc hN hy hyl hsw hi ok hg' ht he hs
  have h2 := fun σ H Q => comp_imp (K := X.K) (mg := X.mg) (W := W) (A := fun i => i ∈ al) (own := own.map (·.2)) (p := p) (fi := fi) (ft := ft) (fe := fe) (g := g0) hsl (fun R hR v σ H G d e e' Q a1 a2 a3 a4 a5 => ⟨R, G, d, e, e', hR, a1, a2, a3, a4, a5⟩) σ H Q
  have hlst : ∀ e d, eComp (own.map (·.2)) p fi ft fe e = .ok d → d.isDct = false := fun e d h => by
    unfold eComp at h
    cases hi : fi e with
    | ok ds =>
      rw [hi, Res.bind_ok] at h
      split at h
      · split at h
        · cases h; rfl
        · cases h
      · cases h
    | exc c fs => rw [hi] at h; cases h
    | bad => rw [hi] at h; cases h
  generalize eComp (own.map (·.2)) p fi ft fe = f at h2 hlst ⊢
  have hF : DS X W H0 G0 (.Assign [.Name y py] (.ListComp elt [⟨tg, iter, ifs, 0⟩] scope pos) spos) (sSetF al i f) := h1.lk fun Z σ H ⟨e, G, S, p⟩ => (S.exp al).imp fun H ⟨G1, GA, S1, E, nxt⟩ => h2 σ H _ (by
    refine ⟨e, GA, E, ?_⟩
    unfold sSetF sE at p
    cases hr : f e with
    | ok d =>
      rw [hr] at p
      intro H' G' x a ha ga rc
      have S' := nxt H' G' x
      refine p _ H' G' (S'.setF i (Hb := H) S1.ext.hh (fun j d' b h1 h2 => ?_) ha ga rc hpin)
      have w1 := fz_fzD_own h1
      obtain ⟨a', q1, _, _, q4⟩ := S1.ow j d' w1
      rw [h2] at q1; cases q1
      exact q4.is
    | exc c fs =>
      rw [hr] at p
      exact fun cls o H' s ix => p cls o σ H GA H' (nxt H GA (Ext.refl E.sub)) s ix
    | bad => rw [hr] at p; exact p.elim)
  cases fresh with
  | true => exact hF
  | false =>
    refine h1.lk fun Z σ H hq => (sE_step (f := f) (k := fun d e => .nx (e.set i (some (d, false)))) hq).imp fun H ⟨e, G, E, p⟩ => h2 σ H _ ?_
    refine ⟨e, G, E, ?_⟩
    have p2 := p.imp (R' := fun d H' G' => ∀ v, Rep X.K G' d v → gName i v σ H' Z.nx) fun d H' G' _ ⟨S, q⟩ v r => q _ H' G' (S.set i r)
    cases hr : f e with
    | exc c fs => rw [hr] at p2; exact p2
    | bad => rw [hr] at p2; exact p2
    | ok d =>
      rw [hr] at p2
      intro H' G' x a ha ga rc
      have sg : Sub G' (fun b => if b = a then H' b else G' b) := fun b o q => by
        show (if b = a then H' b else G' b) = some o
        by_cases hb : b = a
        · subst hb; rw [ga] at q; cases q
        · rw [if_neg hb]; exact q
      refine p2 H' (fun b => if b = a then H' b else G' b) ⟨x.hh, x.gg.trans sg, fun b o q => ?_, fun b q => ?_⟩ (.ref a) (rc.put (hlst _ _ hr) sg (if_pos rfl))
      · have q' : (if b = a then H' b else G' b) = some o := q
        by_cases hb : b = a
        · rw [if_pos hb] at q'; exact q'
        · rw [if_neg hb] at q'; exact x.gh _ _ q'
      · have q' : (if b = a then H' b else G' b) ≠ none := q
        by_cases hb : b = a
        · subst hb; exact .inr (.inl ha)
        · rw [if_neg hb] at q'; exact x.new b q'
end
end DL

namespace DL
open PySem PySem.Spec PyProof.Rows L2
open PySem.Builtin.Int (intBits)

/-! ### a name that never holds a list to be changed -/
def eVarS (i : Nat) : Env → Res D := fun e => match e[i]? with
  | some (some (d, false)) => .ok d
  | _ => .bad
section
variable {X : Cx} {W : WX} {A : Nat → Prop} {a b : Expr} {rest : List Expr} {pos p p1 p2 : Pos} {x T : Str} {H0 : Bas} {G0 : Hp}
theorem de_vs {i : Nat} {x : Str} {pos : Pos} (hN : X.N[i]? = some x) (hv : Vis X.env.scope x) (hd : (x == ("__debug__" : Str)) = false := by decide) (hcd : (x == ("__classdict__" : Str)) = false := by decide) : DE X W A (.Name x pos) (eVarS i) :=
  (pe_var hN hv hd hcd).imp fun σ H Q ⟨e, G, E, p⟩ => by
    unfold eVarS at p
    cases h : e[i]? with
    | none => rw [h] at p; exact p.elim
    | some s => cases s with
      | none => rw [h] at p; exact p.elim
      | some z =>
        obtain ⟨d, o⟩ := z
        rw [h] at p
        cases o with
        | true => exact p.elim
        | false =>
          obtain ⟨v, h1, h2, h3⟩ := E.val i d false h
          exact ⟨v, h1, p.here E.sub v (h2 (.inr rfl))⟩

/-! ### isinstance -/
/-- the name of the data's own type -/
def D.tyN : D → Option String
  | .non => some "NoneType"
  | .bl _ => some "bool"
  | .int _ => some "int"
  | .str _ => some "str"
  | .tup _ => some "tuple"
  | .con _ => some "tuple"
  | .lst _ => some "list"
  | _ => none
def isInt : D → Res D
  | .int _ => .ok (.bl true)
  | .bl _ => .ok (.bl true)
  | d => if d.tyN = none then .bad else .ok (.bl false)
def isBool : D → Res D
  | .bl _ => .ok (.bl true)
  | d => if d.tyN = none then .bad else .ok (.bl false)
def isTup : D → Res D
  | .tup _ => .ok (.bl true)
  | .con _ => .ok (.bl true)
  | d => if d.tyN = none then .bad else .ok (.bl false)
def isStr : D → Res D
  | .str _ => .ok (.bl true)
  | d => if d.tyN = none then .bad else .ok (.bl false)
def isList : D → Res D
  | .lst _ => .ok (.bl true)
  | d => if d.tyN = none then .bad else .ok (.bl false)
/-- g says which data is of the type T -/
def IsOf (T : String) (g : D → Res D) : Prop := ∀ d, (∀ t, d.tyN = some t → ∃ b, kitB t T = some b ∧ g d = .ok (.bl b)) ∧ (d.tyN = none → g d = .bad)
theorem is_int : IsOf "int" isInt := fun d => ⟨fun t h => by cases d <;> cases h <;> exact ⟨_, by decide +kernel, rfl⟩, fun h => by cases d <;> first | rfl | cases h⟩
theorem is_bool : IsOf "bool" isBool := fun d => ⟨fun t h => by cases d <;> cases h <;> exact ⟨_, by decide +kernel, rfl⟩, fun h => by cases d <;> first | rfl | cases h⟩
theorem is_list : IsOf "list" isList := fun d => ⟨fun t h => by cases d <;> cases h <;> exact ⟨_, by decide +kernel, rfl⟩, fun h => by cases d <;> first | rfl | cases h⟩
theorem tyX {K : PySem.W.Frag} {H G : Hp} {d : D} {v : V} {t : String} (g : Sub G H) (r : RepC K H G d v) (h : d.tyN = some t) : TyX K H v (.type t) := by
  cases d with
  | non => cases h; cases (show v = .non from r); exact .base .non
  | bl b => cases h; cases (show v = .bl b from r); exact .base (.bl b)
  | int i => cases h; cases (show v = .int i from r); exact .base (.int i)
  | str x => cases h; cases (show v = .str x from r); exact .base (.str x)
  | tup ds =>
    cases h
    obtain ⟨a, vs, e, s, _⟩ := (show Rep K G (.tup ds) v from r)
    subst e
    rcases g.pt (K := K) s with (q | ⟨o, q⟩) | ⟨o, its, n, q1, q2, _⟩
    · exact .base (.tup q)
    · exact .fTuple q
    · exact .kTuple q1 q2
  | con ds =>
    cases h
    obtain ⟨a, vs, e, s, _⟩ := (show Rep K G (.con ds) v from r)
    subst e
    rcases g.sqt (K := K) s with (q | ⟨o, q⟩) | ⟨o, its, n, q1, q2, _⟩
    · exact .base (.tup q)
    · exact .fTuple q
    · exact .kTuple q1 q2
  | lst ds =>
    cases h
    obtain ⟨a, vs, e, s, _⟩ := r
    subst e
    rcases s with (q | ⟨o, q⟩) | ⟨o, its, n, q1, q2, _⟩
    · exact .base (.lst q)
    · exact .base (.frz q)
    · exact .kList q1 q2
  | _ => cases h
theorem de_isi {x T : Str} {n : String} {g : D → Res D} {f : Env → Res D} (ho : IsOf n g) (hg : Gl X x) (hm : X.mg x = none) (hv : bootBuiltins x = some (.builtin "isinstance")) (ha : DR X W A a f) (hgT : Gl X T) (hmT : X.mg T = none) (hvT : bootBuiltins T = some (.type n))
    (hnx : x ≠ "__name__" := by decide) (hnT : T ≠ "__name__" := by decide) (hdT : (T == ("__debug__" : Str)) = false := by decide) (hdb : (x == ("__debug__" : Str)) = false := by decide)
    (he : starEach (a :: [.Name T p2]) X.env = (false, eval a X.env) :: starEach [.Name T p2] X.env := by rfl) (he2 : starEach (.Name T p2 :: []) X.env = (false, eval (.Name T p2) X.env) :: starEach [] X.env := by rfl) (hpl : (backTo pos (starEach [.Name T p2] X.env)).any (·.1) = false := by rfl) :
    DE X W A (.Call (.Name x p) [a, .Name T p2] [] pos) (e1 g f) := by
  refine (pe_callB call_isi hg hm hv (pa_cons ha (pa_cons (pe_bltn hgT hmT hvT (v := .ty n) rfl hnT hdT) pa_nil he2) he) hnx hdb he hpl).imp fun σ H Q ⟨e, G, E, p⟩ => ?_
  refine ⟨e, G, E, p.split.imp fun d H1 G1 x1 p1 v rv => ?_⟩
  cases ht : d.tyN with
  | none => rw [(ho d).2 ht] at p1; exact p1.elim
  | some t =>
    obtain ⟨b, k1, k2⟩ := (ho d).1 t ht
    rw [k2] at p1
    exact ⟨v, .ty n, .type t, .type n, b, rfl, .ty n, tyX x1.gh rv ht, kit_ty k1, p1.val x1.gh rfl⟩

/-! ### raise, try -/
structure ExcOk (K : PySem.W.Frag) (mg : Str → Option Value) (c : String) : Prop where
  ok : ∃ C B newId initId bmB, PySem.ExcBaseFacts B newId initId bmB ∧ PySem.W.excIn K C bmB newId = true ∧ mg (Str.ofString c) = some (.ref C) ∧ PySem.W.keepIn K (.ref C) = true ∧
    PySem.W.subIn K (.ref C) (.type "BaseException") = some true ∧ PySem.W.typeIn K (.ref C) = some (.type "type")
def sRaise (c : String) : Env → Out := fun e => .ex c [] e
/-- what "except X" does at each class -/
def Clause (K : PySem.W.Frag) (mg : Str → Option Value) (c : Value) (h : String → Option Bool) : Prop := ∀ k b cls, h k = some b → mg (Str.ofString k) = some cls → PySem.W.exmOne K cls c = some b
/-- nothing is raised out of here -/
def noEx (r : Out) : Out := match r with
  | .ex _ _ _ => .bad
  | r => r
def sTry (h : String → Option Bool) (fb fs : Env → Out) : Env → Out := fun e => match fb e with
  | .ex c fs' e' => match h c with
    | some true => noEx (fs e')
    | some false => .ex c fs' e'
    | none => .bad
  | r => r
end
end DL

namespace DL
open PySem PySem.Spec PyProof.Rows L2
open PySem.Builtin.Int (intBits)

theorem _root_.L2.Room.hu {k : Nat} {A : Around} (h : Room k A) : A.units + 64 < cLine := by have := h.un; omega
theorem CallOk.up {P : Program} {w : World} {K : PySem.W.Frag} {mg : Str → Option Value} {base : Heap} {j k : Nat} {x : Str} {ps : List Str} {F : List D → Res D} (h : CallOk P w K mg base j x ps F) (hjk : j ≤ k) : CallOk P w K mg base k x ps F := by
  obtain ⟨f, fd, a, b, c, d⟩ := h.ok
  exact ⟨f, fd, a, b, c, d.mono hjk⟩
theorem endW {l : PySem.W.OpenLaw} {k : Nat} {q : Program} {loose : List Str} {XP : (Str → Option Value) → Heap → Prop} {YP : World → Heap → Prop} {d : DefRec} {K : Params → PySem.W.Frag} {x : Str} {F : List D → Res D}
    (hn : l.most = some 63) (hdf : d.params.defaults = []) (hk : k < 60) (hY : ∀ (w : World) (h : Heap), YP w h → (K w.params).In h)
    (FF : ∀ (w : World) (mg : Str → Option Value) (fa : Addr) (h : Heap), (K w.params).In h → h.Ns mainGlobals mg → mg d.name = some (.ref fa) →
      ∃ fd : FuncData, (∀ (s : Shared) (u : Value), BindsTo s fd ⟨[u], []⟩ [(x, u)]) ∧ ∀ base : Heap, (K w.params).In base → base.Ns mainGlobals mg → FnOk l.prog w (K w.params) mg base (L2.CX l.prog w) k fa fd [x] (spD (K w.params) mg 1 F))
    (law : ∀ ns : List Int, ns.length ≤ 63 → (∀ z ∈ ns, intBits z ≤ 1048576) → F [.lst (ns.map D.int)] = .ok (.bl true)) :
    PySem.W.WalkO q loose XP YP l.row.toRowW d [] (fun f vs => PySem.call f vs) := by
  let sp : World → Sp := fun w => fun vs H Q E => vs.length = 1 ∧ ∃ (a : Addr) (ns : List Int), vs = [.ref a] ∧ ns.length ≤ 63 ∧ (∀ z ∈ ns, intBits z ≤ 1048576) ∧ SqL (K w.params) H a (ns.map V.int) ∧ ∀ H', Q (.bl true) H'
  refine L2.walk_ofB (l := l) (n := 63) (k := k) (x := x) (K := K) (CX := fun w => L2.CX l.prog w) (sp := sp) hn (by rw [PySem.sizeLine_eq]; decide) hdf (Room.mono (k := 60) ⟨rfl, by decide, by decide⟩ (by omega)) hY (fun w mg fa h a b c => ?_) (fun w H a ns hl hb _ hS => ⟨rfl, a, ns, rfl, hl, hb, hS, fun _ => rfl⟩) ?_
  · obtain ⟨fd, b1, b2⟩ := FF w mg fa h a b c
    refine ⟨fd, b1, fun base k1 k2 => ?_⟩
    have f := b2 base k1 k2
    refine ⟨fun vs H Q E h => h.1, fun A outer s H args us vs Q E r e bt vv hsp => f.run A outer s H args us vs Q E r e bt vv ?_⟩
    obtain ⟨_, a, ns, rfl, hl, hb, hS, hq⟩ := hsp
    refine ⟨rfl, [.lst (ns.map D.int)], H, Sub.refl H, ⟨_, _, rfl, ⟨a, _, rfl, hS, RepL.of_ints ns⟩, rfl⟩, ?_⟩
    rw [law ns hl hb]
    exact fun H' G' _ v hv => by cases (show v = .bl true from hv); exact hq H'
  · rintro w H s e s' ⟨_, _, _, _, _, _, _, _, _, _, _, _, z⟩
    exact z
end DL

namespace DL
open PySem PySem.Spec PyProof.Rows L2
open PySem.Builtin.Int (intBits)
/-! ### which classes an "except" names -/
theorem Clause.nil {K : PySem.W.Frag} {mg : Str → Option Value} {c : Value} : Clause K mg c (fun _ => none) := fun k b cls h _ => by cases h
theorem Clause.cons {K : PySem.W.Frag} {mg : Str → Option Value} {c : Value} {n : String} {C : Addr} {b : Bool} {f : String → Option Bool} (hm : mg (Str.ofString n) = some (.ref C)) (he : PySem.W.exmOne K (.ref C) c = some b) (t : Clause K mg c f) : Clause K mg c (fun s => if s = n then some b else f s) := fun k b' cls h hc => by
  dsimp only at h
  by_cases hk : k = n
  · subst hk
    rw [if_pos rfl] at h
    cases h
    rw [hm] at hc
    cases hc
    exact he
  · rw [if_neg hk] at h
    exact t k b' cls h hc
/-! ### a module's constant -/
structure ConOk (K : PySem.W.Frag) (mg : Str → Option Value) (x : String) (d : D) : Prop where
  ok : ∃ u v, mg (Str.ofString x) = some u ∧ RelV v u ∧ ∀ G, Rep K G d v
theorem de_con {X : Cx} {W : WX} {A : Nat → Prop} {x : String} {d : D} {pos : Pos} (h : ConOk X.K X.mg x d) (hg : Gl X (Str.ofString x)) (hd : (Str.ofString x == ("__debug__" : Str)) = false := by decide) : DE X W A (.Name (Str.ofString x) pos) (eC d) := by
  obtain ⟨u, v, h1, h2, h3⟩ := h.ok
  exact de_glob hg h1 h2 h3 hd
/-- a value of the written part is the data d -/
structure Con (K : PySem.W.Frag) (d : D) (u : Value) : Prop where
  ok : ∃ v, RelV v u ∧ ∀ G, Rep K G d v
theorem Con.int {K : PySem.W.Frag} {i : Int} {t : Tok} : Con K (.int i) (.int i t) := ⟨.int i, ⟨t, rfl⟩, fun _ => rfl⟩
theorem Con.str {K : PySem.W.Frag} {x : Str} {t : Tok} : Con K (.str x) (.str x t) := ⟨.str x, ⟨t, rfl⟩, fun _ => rfl⟩
def Cons (K : PySem.W.Frag) : List D → List Value → Prop
  | [], us => us = []
  | d :: ds, us => ∃ u r, us = u :: r ∧ Con K d u ∧ Cons K ds r
theorem Cons.rep {K : PySem.W.Frag} : ∀ {ds : List D} {us : List Value}, Cons K ds us → ∃ vs, Vals vs us ∧ ∀ G, RepL K G ds vs
  | [], _, rfl => ⟨[], .nil, fun _ => rfl⟩
  | d :: ds, _, ⟨u, r, rfl, h, t⟩ => by
    obtain ⟨v, h1, h2⟩ := h.ok
    obtain ⟨vs, h3, h4⟩ := Cons.rep t
    exact ⟨v :: vs, .cons h1 h3, fun G => ⟨v, vs, rfl, h2 G, h4 G⟩⟩
theorem Con.tup {K : PySem.W.Frag} {a : Addr} {dd : Option Addr} {us : List Value} {n : Nat} {sl : Array (Option Value)} {ds : List D} (h : K.lookup a = some ⟨.type "tuple", dd, .seq us.toArray n, sl⟩) (c : Cons K ds us) (hn : us.length ≤ 1000) : Con K (.con ds) (.ref a) := by
  obtain ⟨vs, h3, h4⟩ := c.rep
  refine ⟨.ref a, rfl, fun G => ⟨a, vs, rfl, .inr ⟨_, _, n, h, rfl, rfl, ?_, by simpa using h3⟩, h4 G⟩⟩
  rw [PySem.sizeLine_eq]
  simp
  omega
theorem Con.at {K : PySem.W.Frag} {mg : Str → Option Value} {x : String} {d : D} {u : Value} (h : Con K d u) (hm : mg (Str.ofString x) = some u) : ConOk K mg x d := by
  obtain ⟨v, h1, h2⟩ := h.ok
  exact ⟨u, v, hm, h1, h2⟩
end DL

namespace DL
open PySem PySem.Spec PyProof.Rows L2
open PySem.Builtin.Int (intBits)
/-! ### range of three -/
def prog3 (i c : Int) (n : Nat) : List D := (List.range n).map fun k => D.int (i + (k : Nat) * c)
open Classical in
noncomputable def rg3 (i j c : Int) : Res (List D) := if h : ∃ n, RgC i j c n then .ok (prog3 i c (Classical.choose h)) else .bad
theorem rg3_ok {i j c : Int} {ds : List D} (h : rg3 i j c = .ok ds) : ∃ n, RgC i j c n ∧ ds = prog3 i c n := by
  unfold rg3 at h
  by_cases hx : ∃ n, RgC i j c n
  · rw [dif_pos hx] at h
    injection h with h
    exact ⟨_, Classical.choose_spec hx, h.symm⟩
  · rw [dif_neg hx] at h; cases h
theorem rg3_not {i j c : Int} : (∃ ds, rg3 i j c = .ok ds) ∨ rg3 i j c = .bad := by
  unfold rg3
  by_cases hx : ∃ n, RgC i j c n
  · rw [dif_pos hx]; exact .inl ⟨_, rfl⟩
  · rw [dif_neg hx]; exact .inr rfl
theorem walk_prog {K : PySem.W.Frag} {B G : Hp} (i c : Int) (n : Nat) : WalkOf K (Itc i c n) (prog3 i c n) B G where
  go := fun H k h hk => by
    show k < n
    simpa [prog3] using hk
  stop := fun H h => by
    show n ≤ _
    simp [prog3]
  yld := fun H G2 k x H' h g g2 hk y => by
    obtain ⟨e, y⟩ := y
    subst e
    have hk' : k < n := by simpa [prog3] using hk
    exact ⟨.int (i + k * c), G2, by simp [prog3, hk'], Ext.refl g2, y⟩
noncomputable def r3D : D → D → D → Res (List D) := fun x y z => match x, y, z with
  | .int i, .int j, .int c => rg3 i j c
  | _, _, _ => .bad
noncomputable def iRange3 (f g h : DL.Env → Res D) : DL.Env → Res (List D) := fun e => (f e).bind fun x => (g e).bind fun y => (h e).bind fun z => r3D x y z
section
variable {X : Cx} {W : WX} {A : Nat → Prop} {a b c : Expr} {pos : Pos}
theorem di_range3 {tg : Expr} {p : Pos} {f g h : DL.Env → Res D} (hg : Gl X "range") (hm : X.mg "range" = none) (ha : DE X W A a f) (hb : DE X W A b g) (hc : DE X W A c h)
    (he : starEach [a, b, c] X.env = (false, eval a X.env) :: starEach [b, c] X.env := by rfl) (he2 : starEach [b, c] X.env = (false, eval b X.env) :: starEach [c] X.env := by rfl) (he3 : starEach [c] X.env = (false, eval c X.env) :: starEach [] X.env := by rfl) (hpl : (backTo pos (starEach [b, c] X.env)).any (·.1) = false := by rfl) :
    DI X W A tg (.Call (.Name "range" p) [a, b, c] [] pos) (iRange3 f g h) :=
  (pi_range3 hg hm (pa_cons ha (pa_cons hb (pa_cons hc pa_nil he3) he2) he) he hpl).imp fun σ H Q ⟨e, G, E, p⟩ => ⟨e, G, E, p.split.imp fun d H1 G1 x1 p1 v rv => ⟨e, G1, E.ext x1, p1.split.imp fun d2 H2 G2 x2 p2 v2 rv2 => ⟨e, G2, (E.ext x1).ext x2, p2.split.imp fun d3 H3 G3 x3 p3 v3 rv3 => by
    have p4 : PostG X.K X.mg _ H3 G3 (r3D d d2 d3) _ := p3
    unfold r3D at p4
    cases d with
    | int i =>
      cases d2 with
      | int j =>
        cases d3 with
        | int k =>
          cases (show v = .int i from rv); cases (show v2 = .int j from rv2); cases (show v3 = .int k from rv3)
          dsimp only at p4
          rcases @rg3_not i j k with ⟨ds, h⟩ | h
          · obtain ⟨n, hn, hd⟩ := rg3_ok h
            subst hd
            rw [h] at p4
            exact ⟨i, j, k, n, rfl, hn, p4.here x3.gh _ (walk_prog i k n)⟩
          · rw [h] at p4; exact p4.elim
        | _ => exact (show False from p4).elim
      | _ => exact (show False from p4).elim
    | _ => exact (show False from p4).elim⟩⟩⟩
/-- x, y = a, b with no tuple made -/
def sPar (al : List Nat) (i j : Nat) (fs : DL.Env → Res (List D)) : DL.Env → Out := sE al fs fun ds e => match ds with
  | [x, y] => .nx ((e.set i (some (x, false))).set j (some (y, false)))
  | _ => .bad
/-! ### zip of two -/
end
end DL

namespace DL
open PySem PySem.Spec PyProof.Rows L2
open PySem.Builtin.Int (intBits)
/-! ### str of truth values and numbers -/
def dStr : D → Res D
  | .bl b => .ok (.str (if b = true then "True" else "False"))
  | _ => .bad
/-! ### except X as e -/
/-- the error's name is gone behind the suite; nothing is raised out of it -/
def clrN (i : Nat) : Out → Out
  | .nx e => .nx (e.set i none)
  | .bk e => .bk (e.set i none)
  | .ct e => .ct (e.set i none)
  | .rt d => .rt d
  | .ro d => .ro d
  | .rm d e => .rm d (e.set i none)
  | _ => .bad
open Classical in
/-- what is so at every address -/
noncomputable def unif (g : Addr → Out) : Out := if h : ∃ r, ∀ a, g a = r then Classical.choose h else .bad
theorem unif_of {g : Addr → Out} {r : Out} (h : ∀ a, g a = r) : unif g = r := by
  have hx : ∃ r, ∀ a, g a = r := ⟨r, h⟩
  unfold unif
  rw [dif_pos hx]
  exact (Classical.choose_spec hx 0).symm.trans (h 0)
noncomputable def sTryAs (i : Nat) (h : String → Option Bool) (fb : DL.Env → Out) (fs : Addr → String → DL.Env → Out) : DL.Env → Out := fun e => match fb e with
  | .ex c fs' e' => match h c with
    | some true => if fs' = [] then unif fun a => clrN i (fs a c (e'.set i (some (.obj (.ref a), false)))) else .bad
    | some false => .ex c fs' e'
    | none => .bad
  | r => r
section
variable {X : Cx} {W : WX} {A : Nat → Prop} {a b : Expr} {rest : List Expr} {pos p p1 p2 : Pos} {H0 : Bas} {G0 : Hp}
/-! ### isinstance of the caught error -/
def IsTab (K : PySem.W.Frag) (mg : Str → Option Value) (cv : Value) (t : String → Option Bool) : Prop := ∀ c b cls, t c = some b → mg (Str.ofString c) = some cls → ∃ C, cls = .ref C ∧ ExcC K C ∧ PySem.W.kitOne K (.ref C) cv = some b
theorem IsTab.nil {K : PySem.W.Frag} {mg : Str → Option Value} {cv : Value} : IsTab K mg cv (fun _ => none) := fun c b cls h _ => by cases h
theorem IsTab.cons {K : PySem.W.Frag} {mg : Str → Option Value} {cv : Value} {n : String} {C : Addr} {b : Bool} {f : String → Option Bool} (hm : mg (Str.ofString n) = some (.ref C)) (hc : ExcC K C) (he : PySem.W.kitOne K (.ref C) cv = some b) (t : IsTab K mg cv f) : IsTab K mg cv (fun s => if s = n then some b else f s) := fun k b' cls h hcl => by
  dsimp only at h
  by_cases hk : k = n
  · subst hk
    rw [if_pos rfl] at h
    cases h
    rw [hm] at hcl
    cases hcl
    exact ⟨C, rfl, hc, he⟩
  · rw [if_neg hk] at h
    exact t k b' cls h hcl
def eIsE (i : Nat) (a : Addr) (o : Option Bool) : DL.Env → Res D := fun e => match e[i]? with
  | some (some (.obj (.ref a'), false)) => if a' = a then (match o with | some b => .ok (.bl b) | none => .bad) else .bad
  | _ => .bad
end
end DL

namespace DL
open PySem PySem.Spec PyProof.Rows L2
open PySem.Builtin.Int (intBits)
/-! ### dicts: the data -/
open Classical in
/-- what stands at a key -/
noncomputable def dFind (kvs : List (D × D)) (k : D) : Option D := (kvs.find? fun p => decide (p.1 = k)).map (·.2)
open Classical in
/-- a key set -/
noncomputable def dSet (kvs : List (D × D)) (k d : D) : List (D × D) := if (kvs.any fun p => decide (p.1 = k)) = true then kvs.map (fun p => if p.1 = k then (p.1, d) else p) else kvs ++ [(k, d)]
theorem keyD_inj {a b : Key} (h : keyD a = keyD b) : a = b := by
  cases a <;> cases b <;> simp [keyD] at h <;> rw [h]
theorem keyT_inj : ∀ {a b : List Key}, keyT a = keyT b → a = b := by
  intro a b h
  unfold keyT at h
  injection h with h
  induction a generalizing b with
  | nil => cases b with
    | nil => rfl
    | cons _ _ => simp at h
  | cons x a ih => cases b with
    | nil => simp at h
    | cons y b =>
      simp only [List.map_cons, List.cons.injEq] at h
      rw [keyD_inj h.1, ih h.2]
section
variable {κ : Type} [DecidableEq κ] {f : κ → D} {K : PySem.W.Frag} {G : Hp}
theorem repv_find (hf : ∀ a b, f a = f b → a = b) : ∀ {kvs : List (D × D)} {ps : List (κ × V)}, kvs.map (·.1) = ps.map (fun p => f p.1) → RepV K G kvs (ps.map (·.2)) → ∀ k : κ,
    (dFind kvs (f k) = none ∧ valV ps k = none) ∨ ∃ d v, dFind kvs (f k) = some d ∧ valV ps k = some v ∧ Rep K G d v
  | [], [], _, _, k => .inl ⟨rfl, rfl⟩
  | [], _ :: _, h, _, _ => by simp at h
  | _ :: _, [], h, _, _ => by simp at h
  | (k0, d0) :: kvs, (c0, v0) :: ps, h, r, k => by
    simp only [List.map_cons, List.cons.injEq] at h
    obtain ⟨v, r', e, r1, r2⟩ := r
    simp only [List.map_cons, List.cons.injEq] at e
    obtain ⟨e1, e2⟩ := e
    subst e1 e2
    have ih := repv_find hf h.2 r2 k
    have hk0 : k0 = f c0 := h.1
    subst hk0
    by_cases hk : c0 = k
    · subst hk
      refine .inr ⟨d0, v0, ?_, ?_, r1⟩
      · simp [dFind]
      · simp [valV]
    · have hk' : ¬ f c0 = f k := fun z => hk (hf _ _ z)
      have e1 : dFind ((f c0, d0) :: kvs) (f k) = dFind kvs (f k) := by simp [dFind, hk']
      have e2 : valV ((c0, v0) :: ps) k = valV ps k := by simp [valV, hk]
      rw [e1, e2]
      exact ih
theorem any_same (hf : ∀ a b, f a = f b → a = b) : ∀ {kvs : List (D × D)} {ps : List (κ × V)}, kvs.map (·.1) = ps.map (fun p => f p.1) → ∀ k : κ,
    (∃ p ∈ kvs, p.1 = f k) ↔ ∃ p ∈ ps, p.1 = k
  | [], [], _, k => by simp
  | [], _ :: _, h, _ => by simp at h
  | _ :: _, [], h, _ => by simp at h
  | (k0, d0) :: kvs, (c0, v0) :: ps, h, k => by
    simp only [List.map_cons, List.cons.injEq] at h
    have ih := any_same hf h.2 k
    have hk0 : k0 = f c0 := h.1
    subst hk0
    simp only [List.mem_cons, exists_eq_or_imp, ih]
    constructor
    · rintro (z | z)
      · exact .inl (hf _ _ z)
      · exact .inr z
    · rintro (z | z)
      · exact .inl (by rw [z])
      · exact .inr z
open Classical in
theorem repv_map (hf : ∀ a b, f a = f b → a = b) {d : D} {v : V} (rd : Rep K G d v) (k : κ) : ∀ {kvs : List (D × D)} {ps : List (κ × V)}, kvs.map (·.1) = ps.map (fun p => f p.1) → RepV K G kvs (ps.map (·.2)) →
    (kvs.map (fun p => if p.1 = f k then (p.1, d) else p)).map (·.1) = (ps.map fun kv => if kv.1 = k then (kv.1, v) else kv).map (fun p => f p.1) ∧ RepV K G (kvs.map (fun p => if p.1 = f k then (p.1, d) else p)) ((ps.map fun kv => if kv.1 = k then (kv.1, v) else kv).map (·.2))
  | [], [], _, _ => ⟨rfl, rfl⟩
  | [], _ :: _, h, _ => by simp at h
  | _ :: _, [], h, _ => by simp at h
  | (k0, d0) :: kvs, (c0, v0) :: ps, h, r => by
    simp only [List.map_cons, List.cons.injEq] at h
    obtain ⟨v1, r', e, r1, r2⟩ := r
    simp only [List.map_cons, List.cons.injEq] at e
    obtain ⟨e1, e2⟩ := e
    subst e1 e2
    obtain ⟨a, b⟩ := repv_map hf rd k h.2 r2
    have hk0 : k0 = f c0 := h.1
    subst hk0
    by_cases hk : c0 = k
    · subst hk
      simp only [List.map_cons, if_true]
      exact ⟨by rw [← a], v, _, rfl, rd, b⟩
    · have hk' : ¬ f c0 = f k := fun z => hk (hf _ _ z)
      simp only [List.map_cons, if_neg hk, if_neg hk']
      exact ⟨by rw [← a], v0, _, rfl, r1, b⟩
theorem repv_app : ∀ {kvs : List (D × D)} {vs : List V} {k d : D} {v : V}, RepV K G kvs vs → Rep K G d v → RepV K G (kvs ++ [(k, d)]) (vs ++ [v])
  | [], _, k, d, v, rfl, h => ⟨v, [], rfl, h, rfl⟩
  | (_, d0) :: kvs, _, k, d, v, ⟨v0, r', e, r1, r2⟩, h => ⟨v0, r' ++ [v], by rw [e]; rfl, r1, repv_app r2 h⟩
/-- a key set: data and values stay together -/
theorem repv_set (hf : ∀ a b, f a = f b → a = b) {kvs : List (D × D)} {ps : List (κ × V)} (h : kvs.map (·.1) = ps.map (fun p => f p.1)) (r : RepV K G kvs (ps.map (·.2))) {d : D} {v : V} (rd : Rep K G d v) (k : κ) :
    (dSet kvs (f k) d).map (·.1) = (putK ps k v).map (fun p => f p.1) ∧ RepV K G (dSet kvs (f k) d) ((putK ps k v).map (·.2)) := by
  have ha := any_same hf h k
  unfold dSet putK
  by_cases hx : ∃ p ∈ ps, p.1 = k
  · rw [if_pos (by simpa using ha.mpr hx), if_pos (by simpa using hx)]
    exact repv_map hf rd k h r
  · have hy : ¬ ∃ p ∈ kvs, p.1 = f k := fun z => hx (ha.mp z)
    rw [if_neg (by simpa using hy), if_neg (by simpa using hx)]
    refine ⟨by simp [h], ?_⟩
    rw [List.map_append]
    exact repv_app r rd
end
end DL

namespace DL
open PySem PySem.Spec PyProof.Rows L2
open PySem.Builtin.Int (intBits)
/-! ### dicts: the rules -/
def eDNew (t : Bool) : DL.Env → Res D := fun _ => .ok (.dct t [])
section
variable {X : Cx} {W : WX} {A : Nat → Prop} {a b : Expr} {rest : List Expr} {pos p p1 p2 apos cpos : Pos} {H0 : Bas} {G0 : Hp}
theorem df_dnewK : DF X W A (.Dict [] [] pos) (eDNew false) :=
  pe_dnewK.imp fun σ H Q ⟨e, G, E, q⟩ p hp => q (upd H p (.dK [])) G ⟨Sub.upd hp, Sub.refl _, E.sub.trans (Sub.upd hp), fun b z => .inl z⟩ p hp (E.sub.free hp) (.inl ⟨rfl, [], upd_same, rfl, rfl⟩)
/-- a key that fits the dict's kind -/
def D.isKey : D → Bool
  | .int _ => true
  | .str _ => true
  | _ => false
def D.keyOk (t : Bool) : D → Bool
  | .tup ds => t && ds.all D.isKey
  | d => !t && d.isKey
theorem key_of {d : D} (h : d.isKey = true) : ∃ k : Key, d = keyD k := by
  cases d with
  | int i => exact ⟨.inl i, rfl⟩
  | str x => exact ⟨.inr x, rfl⟩
  | _ => cases h
theorem keys_of : ∀ {ds : List D}, ds.all D.isKey = true → ∃ ks : List Key, ds = ks.map keyD
  | [], _ => ⟨[], rfl⟩
  | d :: ds, h => by
    simp only [List.all_cons, Bool.and_eq_true] at h
    obtain ⟨k, e⟩ := key_of h.1
    obtain ⟨ks, e2⟩ := keys_of h.2
    exact ⟨k :: ks, by rw [e, e2]; rfl⟩
theorem rep_key {K : PySem.W.Frag} {G : Hp} {k : Key} {v : V} (r : Rep K G (keyD k) v) : v = kV k := by
  cases k with
  | inl i => exact r
  | inr x => exact r
theorem rep_keys {K : PySem.W.Frag} {G : Hp} : ∀ {ks : List Key} {vs : List V}, RepL K G (ks.map keyD) vs → vs = ks.map kV
  | [], _, h => h
  | k :: ks, _, ⟨v, r, e, h1, h2⟩ => by rw [e, rep_key h1, rep_keys h2]; rfl
/-- what a dict tells at a key -/
theorem dget_rep {K : PySem.W.Frag} {H G : Hp} {t : Bool} {kvs : List (D × D)} {a : Addr} {k : D} {y : V} (sg : Sub G H) (r : RepC K H G (.dct t kvs) (.ref a)) (hk : D.keyOk t k = true) (ry : Rep K G k y) :
    ∃ o, DGet H a y o ∧ ((dFind kvs k = none ∧ o = none) ∨ ∃ d v, dFind kvs k = some d ∧ o = some v ∧ Rep K G d v) := by
  obtain ⟨a', ea, h⟩ := r
  cases ea
  rcases h with ⟨t0, ps, s, hkeys, rv⟩ | ⟨t0, ps, s, hkeys, rv⟩
  · subst t0
    have hk' : k.isKey = true := by
      cases k with
      | tup ds => simp [D.keyOk] at hk
      | _ => simpa [D.keyOk] using hk
    obtain ⟨κ, e⟩ := key_of hk'
    subst e
    refine ⟨valV ps κ, .inl ⟨ps, κ, s, rep_key ry, rfl⟩, ?_⟩
    exact repv_find (fun _ _ => keyD_inj) hkeys rv κ
  · subst t0
    cases k with
    | tup ds =>
      have hk' : ds.all D.isKey = true := by simpa [D.keyOk] using hk
      obtain ⟨ks, e⟩ := keys_of hk'
      subst e
      obtain ⟨b, vs, e1, e2, e3⟩ := ry
      have := rep_keys e3
      subst this
      refine ⟨valV ps ks, .inr ⟨ps, ks, b, s, e1, sg _ _ e2, rfl⟩, ?_⟩
      exact repv_find (f := keyT) (fun _ _ => keyT_inj) hkeys rv ks
    | _ => simp [D.keyOk] at hk
/-- d[k] -/
noncomputable def dAt : D → D → Res D := fun d k => match d with
  | .dct t kvs => if D.keyOk t k = true then (match dFind kvs k with | some x => .ok x | none => .bad) else .bad
  | _ => .bad
theorem de_dix {fa fb : DL.Env → Res D} (hu : X.A.units + 1 < cLine) (ha : DR X W A a fa) (hb : DE X W A b fb) (hs : NoSl b) : DE X W A (.Subscript a b pos) (eOp dAt fa fb) :=
  (pe_dget hu ha hb hs).imp fun σ H Q ⟨e, G, E, q⟩ => ⟨e, G, E, q.split.imp fun d H1 G1 x1 q1 v rv => ⟨e, G1, E.ext x1, q1.split.imp fun k H2 G2 x2 q2 y ry => by
    have rv := rv.mono x2.hh x2.gg
    cases d with
    | dct t kvs =>
      dsimp only [dAt] at q2
      by_cases hk : D.keyOk t k = true
      · rw [if_pos hk] at q2
        obtain ⟨a', ea, _⟩ := id rv
        subst ea
        obtain ⟨o, h1, h2⟩ := dget_rep x2.gh rv hk ry
        rcases h2 with ⟨e1, e2⟩ | ⟨d, w, e1, e2, e3⟩
        · rw [e1] at q2; exact q2.elim
        · rw [e1] at q2
          subst e2
          exact ⟨a', w, rfl, h1, q2.here x2.gh w e3⟩
      · rw [if_neg hk] at q2; exact q2.elim
    | _ => exact (show False from q2).elim⟩⟩
/-- d.get(k, x) -/
noncomputable def dGet2 : D → D → D → Res D := fun d k x => match d with
  | .dct t kvs => if D.keyOk t k = true then .ok ((dFind kvs k).getD x) else .bad
  | _ => .bad
noncomputable def eGet2 (fa fb fc : DL.Env → Res D) : DL.Env → Res D := fun e => (fa e).bind fun d => match d with
  | .dct t kvs => (fb e).bind fun k => (fc e).bind fun x => dGet2 (.dct t kvs) k x
  | _ => .bad
end
end DL

namespace DL
open PySem PySem.Spec PyProof.Rows L2
open PySem.Builtin.Int (intBits)
theorem _root_.L2.Room.hu1 {k : Nat} {A : Around} (h : Room k A) : A.units + 1 < cLine := by have := h.un; omega
/-- the dict that the name i holds, to be changed -/
def ownD (i : Nat) (e : DL.Env) (k : Bool → List (D × D) → Out) : Out := match e[i]? with
  | some (some (.dct t kvs, true)) => k t kvs
  | _ => .bad
/-- x[k] = v -/
noncomputable def sPutD (al : List Nat) (i : Nat) (fk fv : DL.Env → Res D) : DL.Env → Out := fun e => ownD i (fz al e) fun t kvs => sE al (fun e => (fv e).bind fun v => (fk e).bind fun k => .ok (k, v)) (fun kv e' =>
  if D.keyOk t kv.1 = true ∧ kvs.length < sizeLine then .nx (e'.set i (some (.dct t (dSet kvs kv.1 kv.2), true))) else .bad) e
section
variable {X : Cx} {W : WX} {H0 : Bas} {G0 : Hp} {al : List Nat} {pos p1 p2 : Pos}
theorem ownD_inv {i : Nat} {e : DL.Env} {k : Bool → List (D × D) → Out} {Z : Ends} {K : PySem.W.Frag} {mg : Str → Option Value} (p : SPost K mg W H0 G0 (ownD i e k) Z) : ∃ t kvs, e[i]? = some (some (.dct t kvs, true)) ∧ SPost K mg W H0 G0 (k t kvs) Z := by
  unfold ownD at p
  split at p
  · rename_i t kvs h; exact ⟨t, kvs, h, p⟩
  · exact p.elim
theorem ds_putD {i : Nat} {x : Str} {ik ev : Expr} {fk fv : DL.Env → Res D} (hu : X.A.units + 1 < cLine) (hN : X.N[i]? = some x) (hv : Vis X.env.scope x) (hk : DE X W (fun i => i ∈ al) ik fk) (he : DE X W (fun i => i ∈ al) ev fv)
    (hd : (x == ("__debug__" : Str)) = false := by decide) (hcd : (x == ("__classdict__" : Str)) = false := by decide)
    (hs : swapsWith ev (some (.Subscript (.Name x p1) ik p2)) pos.line X.env = pure false := by rfl) :
    DS X W H0 G0 (.Assign [.Subscript (.Name x p1) ik p2] ev pos) (sPutD al i fk fv) := by
  refine (ps_dput hu (pe_var hN hv hd hcd) hk he hs).lk fun Z σ H ⟨e, G, S, p⟩ => (S.exp al).imp fun H ⟨G1, GA, S0, E, nxt⟩ => ?_
  have S1 := nxt H GA (Ext.refl E.sub)
  obtain ⟨t, kvs, hx, p⟩ := ownD_inv p
  obtain ⟨a, q1, _, _, q4⟩ := S1.ow i _ hx
  unfold sE at p
  dsimp only at p
  refine ⟨e, GA, E, ?_⟩
  cases hr : fv e with
  | exc c fs' =>
    rw [hr] at p
    exact fun cls o H' s ix => p cls o σ H GA H' S1 s ix
  | bad => rw [hr] at p; exact p.elim
  | ok dv =>
    rw [hr] at p
    intro H1 G1 x1 v rv
    refine ⟨.ref a, q1, e, G1, E.ext x1, ?_⟩
    cases hr2 : fk e with
    | exc c fs' =>
      simp only [Res.bind_ok, hr2] at p
      exact fun cls o H' s ix => p cls o σ H1 G1 H' (nxt H1 G1 x1) s ix
    | bad => simp only [Res.bind_ok, hr2] at p; exact p.elim
    | ok dk =>
      simp only [Res.bind_ok, hr2] at p
      intro H2 G2 x2 k rk
      have xx := x1.trans x2
      have S2 := nxt H2 G2 xx
      have rv2 := rv.mono x2.gg
      by_cases hc : D.keyOk t dk = true ∧ kvs.length < sizeLine
      · rw [if_pos hc] at p
        have q4' := q4.mono xx.hh xx.gg
        rcases q4' with ⟨t0, ps, s, hkeys, rvv⟩ | ⟨t0, ps, s, hkeys, rvv⟩
        · subst t0
          have hk' : dk.isKey = true := by
            cases dk with
            | tup ds => simp [D.keyOk] at hc
            | _ => simpa [D.keyOk] using hc.1
          obtain ⟨κ, ek⟩ := key_of hk'
          subst ek
          have hl : ps.length < sizeLine := by
            have := congrArg List.length hkeys
            rw [List.length_map, List.length_map] at this
            omega
          obtain ⟨n1, n2⟩ := repv_set (fun _ _ => keyD_inj) hkeys rvv rv2 κ
          refine ⟨a, _, rfl, .inl ⟨ps, κ, s, rep_key rk, hl, rfl⟩, ?_⟩
          exact p σ _ G2 (S2.change hx q1 (.inl ⟨rfl, _, upd_same, n1, n2⟩))
        · subst t0
          cases dk with
          | tup ds =>
            have hk' : ds.all D.isKey = true := by simpa [D.keyOk] using hc.1
            obtain ⟨ks, ek⟩ := keys_of hk'
            subst ek
            obtain ⟨b, vs, e1, e2, e3⟩ := rk
            have ev' := rep_keys e3
            subst ev'
            have hl : ps.length < sizeLine := by
              have := congrArg List.length hkeys
              rw [List.length_map, List.length_map] at this
              omega
            obtain ⟨n1, n2⟩ := repv_set (f := keyT) (fun _ _ => keyT_inj) hkeys rvv rv2 ks
            refine ⟨a, _, rfl, .inr ⟨ps, ks, b, s, e1, xx.gh _ _ e2, hl, rfl⟩, ?_⟩
            exact p σ _ G2 (S2.change hx q1 (.inr ⟨rfl, _, upd_same, n1, n2⟩))
          | _ => simp [D.keyOk] at hc
      · rw [if_neg hc] at p; exact p.elim
/-- k in d, k not in d -/
noncomputable def dIn (no : Bool) : D → D → Res D := fun k d => match d with
  | .dct t kvs => if D.keyOk t k = true then .ok (.bl ((dFind kvs k).isSome != no)) else .bad
  | _ => .bad
theorem in_two {A : Nat → Prop} {fa fb : DL.Env → Res D} {no : Bool} {σ : L2.St} {H : Hp} {Q : VK} (h : tD X.K X.mg W A (eOp (dIn no) fa fb) σ H Q) :
    tD X.K X.mg W A fa σ H fun y H1 => tR X.K X.mg W A fb σ H1 fun x H2 => ∃ a o, x = V.ref a ∧ DGet H2 a y o ∧ Q (V.bl (o.isSome != no)) H2 := by
  obtain ⟨e, G, E, q⟩ := h
  refine ⟨e, G, E, q.split.imp fun k H1 G1 x1 q1 y ry => ⟨e, G1, E.ext x1, q1.split.imp fun d H2 G2 x2 q2 v rv => ?_⟩⟩
  cases d with
  | dct t kvs =>
    dsimp only [dIn] at q2
    by_cases hk : D.keyOk t k = true
    · rw [if_pos hk] at q2
      obtain ⟨a', ea, _⟩ := id rv
      subst ea
      obtain ⟨o, h1, h2⟩ := dget_rep x2.gh rv hk (ry.mono x2.gg)
      rcases h2 with ⟨e1, e2⟩ | ⟨d, w, e1, e2, e3⟩
      · rw [e1] at q2
        subst e2
        exact ⟨a', none, rfl, h1, q2.here x2.gh _ rfl⟩
      · rw [e1] at q2
        subst e2
        exact ⟨a', some w, rfl, h1, q2.here x2.gh _ rfl⟩
    · rw [if_neg hk] at q2; exact q2.elim
  | _ => exact (show False from q2).elim
theorem test_of {A : Nat → Prop} {f : DL.Env → Res D} {σ : L2.St} {H : Hp} {Q : Bool → Hp → Prop} (h : tT X.K X.mg W A (fun e => (f e).bind D.asB) σ H Q) : tD X.K X.mg W A f σ H fun v H' => ∃ k, v = .bl k ∧ Q k H' := by
  obtain ⟨e, G, E, q⟩ := h
  refine ⟨e, G, E, q.split.imp fun d H1 G1 x1 q1 v rv => ?_⟩
  cases d with
  | bl b => exact ⟨b, rv, q1.here x1.gh⟩
  | _ => exact (show False from q1).elim
theorem bTest_is (g : D → D → Res D) (fa fb : DL.Env → Res D) : bTest g fa fb = fun e => (eOp g fa fb e).bind D.asB := by
  funext e
  unfold bTest eOp
  cases fa e with
  | ok x => cases fb e with
    | ok y => rfl
    | exc c z => rfl
    | bad => rfl
  | exc c z => rfl
  | bad => rfl
theorem dt_din {A : Nat → Prop} {a b : Expr} {fa fb : DL.Env → Res D} (hu : X.A.units + 1 < cLine) (ha : DE X W A a fa) (hb : DR X W A b fb) (hm : behindInMarks .In b = false := by rfl) : DT X W A (.Compare a [.In] [b] pos) (bTest (dIn false) fa fb) :=
  (pt_cmp (pc_din hu ha hb) hm).imp fun σ H Q h => by
    rw [bTest_is] at h
    have := in_two (test_of h)
    simp only [Bool.bne_false] at this
    exact this
end
end DL

/-! sorting tuples of any lengths, empty ones too -/
namespace DL
open PySem PySem.W PySem.Calls PyProof.Rows PySem.SeqAt
section
variable {prog : Program} {w : World} {A : Around} {s : Shared}
def hasItem : PyData → Bool
  | .tuple (_ :: _) => true
  | _ => false
theorem firsts_tups {M : Model} {E : Value → Shared → Prop} : ∀ {vs : List Value} {ds : List PyData} {Q : List (Option Value) → Shared → Prop}, EachIs (fun v d => ∃ as, Reads s.heap v d as) vs ds → (∀ d, d ∈ ds → ∃ xs, d = .tuple xs) →
    (∀ fs : List (Option Value), fs.map (·.isSome) = ds.map hasItem → Q fs s) → wpAny M A (vs.mapM firstOfTuple') Q E s
  | _, _, Q, .nil, _, h => by rw [List.mapM_nil]; exact wpAny_pure (h [] rfl)
  | _, _, Q, .cons (a := v) (as := vs) (b := d) (bs := ds) ⟨as, r⟩ t, ht, h => by
    obtain ⟨xs, rfl⟩ := ht d (List.mem_cons_self ..)
    rw [List.mapM_cons]
    refine wpAny_bind ?_
    rw [kas_first_eq]
    cases r with
    | @tuple a o vals n _ _ ho hc hd hr =>
      refine wpAny_bind (Looks.here (show Looks M s.heap (typeOf (.ref a)) o.cls from (Looks.ld ho).andThen .now) ?_)
      rw [hc, if_neg (by first | decide | simp)]
      refine wpAny_bind (listItems_at ho hd (wpAny_pure ?_))
      refine wpAny_bind (firsts_tups t (fun d hd => ht d (List.mem_cons_of_mem _ hd)) fun fs hfs => wpAny_pure (h _ ?_))
      rw [List.map_cons, List.map_cons, hfs]
      congr 1
      rw [← Array.getElem?_toList]
      cases xs with
      | nil =>
        generalize vals.toList = l at hr
        cases hr
        rfl
      | cons x xs =>
        generalize vals.toList = l at hr
        cases hr
        rfl
/-- tuple.__lt__ asked straight -/
theorem oneLt_tups {x y : Addr} {d e : List PyData} {as bs : List Addr} {E : Value → Shared → Prop} {Q : Bool → Shared → Prop} (ra : Reads s.heap (.ref x) (.tuple d) as) (rb : Reads s.heap (.ref y) (.tuple e) bs) (hal : alike (.tuple d) (.tuple e) = true)
    (hu : A.units + min (PyData.tuple d).depth (PyData.tuple e).depth < cLine) (h : Q (dataLt (.tuple d) (.tuple e)) s) : wpAny (model prog w) A (oneLt' true (.ref x) (.ref y)) Q E s := by
  have hall : alikeAll d e = true := by simpa [alike] using hal
  have room := hu
  cases ra with
  | @tuple _ o vs n _ as₁ h1 h2 h3 h4 =>
    cases rb with
    | @tuple _ o' vs' n' _ bs₁ k1 k2 k3 k4 =>
      have n1 : vs.size = d.length := by simpa using ReadsAll.length _ _ _ h4
      have n2 : vs'.size = e.length := by simpa using ReadsAll.length _ _ _ k4
      obtain ⟨cls, dd, data, sl⟩ := o
      obtain ⟨cls', dd', data', sl'⟩ := o'
      simp only at h2 h3 k2 k3
      subst h2 h3 k2 k3
      rw [oneLt'_eq]
      simp only [if_true]
      refine wpAny_bind (wpAny_cRoomFor (SeqAt.room_here hu) ?_)
      refine wpAny_bind (wpAny_callSpecialIfBound?_slot (T := "tuple") (s := s) (show s.TypeIs (.ref x) "tuple" from ⟨_, h1, rfl⟩) PySem.F.slot_tuple_lt ?_)
      rw [dataLt_tuple, ← firstLt_toks d e hall, ← n1, ← n2] at h
      refine call_meets PySem.F.slot_tuple_lt ⟨_, h1, rfl⟩ PySem.F.entry_tuple_lt (PySem.F.args_tuple_lt_2 _ _) (PySem.SeqAt.tuple_ltAt x y vs vs' n n' dd dd' sl sl' (pairEq d e) (fun j => dataLt (d.getD j .none) (e.getD j .none))) ⟨h1, k1, fun j j1 j2 => ?_, fun j j1 j2 hj => ?_, ?_⟩
      · have := eqAt_alikeAll d e A.in1 s vs.toList vs'.toList _ _ h4 k4 hall (SeqAt.room_in hu) j (by simpa using j1) (by simpa using j2)
        simpa using this
      · have := rcLt_alikeAll d e A.in1 s vs.toList vs'.toList _ _ h4 k4 hall (SeqAt.room_in hu) j (by simpa using j1) (by simpa using j2) hj
        simpa using this
      · exact wpAny_truthy_bool h
/-- the kind that list.sort finds -/
theorem kind_tups {vs : List Value} {ds : List PyData} (e : EachIs (fun v d => ∃ as, Reads s.heap v d as) vs ds) (ht : ∀ d, d ∈ ds → ∃ xs, d = .tuple xs) (hno : ∃ d, d ∈ ds ∧ hasItem d = false) :
    ∃ k : SortKind, (k = oneType' ∨ k = general') ∧ ∀ (M : Model) (E : Value → Shared → Prop) (Q : SortKind → Shared → Prop), Q k s → wpAny M A (keyKind' vs.toArray) Q E s := by
  cases ds with
  | nil => obtain ⟨d, hd, _⟩ := hno; cases hd
  | cons d₀ ds =>
    have hall : ∀ fs : List (Option Value), fs.map (·.isSome) = (d₀ :: ds).map hasItem → (fs.toArray.all fun x => x.isSome) = false := by
      intro fs hfs
      obtain ⟨d, hd, hf⟩ := hno
      have : false ∈ fs.map (·.isSome) := by rw [hfs]; exact List.mem_map.mpr ⟨d, hd, hf⟩
      obtain ⟨x, hx, hx2⟩ := List.mem_map.mp this
      rw [Bool.eq_false_iff]
      intro hA
      simp only [List.all_toArray, List.all_eq_true] at hA
      rw [hA x hx] at hx2
      cases hx2
    cases hd0 : hasItem d₀ with
    | true =>
      refine ⟨general', .inr rfl, fun M E Q q => ?_⟩
      rw [kat_kind_eq, List.mapM_toArray, map_eq_pure_bind]
      refine wpAny_bind (wpAny_bind (firsts_tups e ht fun fs hfs => wpAny_pure ?_))
      rw [if_neg (by rw [hall fs hfs]; decide)]
      cases fs with
      | nil => cases hfs
      | cons f fs =>
        rw [List.map_cons, List.map_cons, hd0] at hfs
        have hf : f.isSome = true := (List.cons.inj hfs).1
        have e0 : ((f :: fs).toArray[0]?.bind id).isSome = true := by simpa using hf
        rw [if_pos e0]
        exact wpAny_pure q
    | false =>
      refine ⟨oneType', .inl rfl, fun M E Q q => ?_⟩
      rw [kat_kind_eq, List.mapM_toArray, map_eq_pure_bind]
      refine wpAny_bind (wpAny_bind (firsts_tups e ht fun fs hfs => wpAny_pure ?_))
      rw [if_neg (by rw [hall fs hfs]; decide)]
      cases fs with
      | nil => cases hfs
      | cons f fs =>
        rw [List.map_cons, List.map_cons, hd0] at hfs
        have hf : f.isSome = false := (List.cons.inj hfs).1
        have e0 : ((f :: fs).toArray[0]?.bind id).isSome = false := by simpa using hf
        rw [if_neg (by rw [e0]; decide)]
        rw [oneTypeOnly'_eq, List.mapM_toArray, map_eq_pure_bind]
        refine wpAny_bind (wpAny_bind (wpAny_bind (kas_mapM (r := Value.type "tuple") _ (fun v hv Q' hq => ?_) (wpAny_pure ?_))))
        · obtain ⟨d, hd, as, r⟩ := e.left v hv
          obtain ⟨xs, rfl⟩ := ht d hd
          exact (looks_reads r).here hq
        · cases e with
          | cons h t =>
            rename_i v vs
            have hall2 : ((List.map (fun _ => Value.type "tuple") (v :: vs)).toArray.all fun x => x == Value.type "tuple") = true := by
              simp only [List.all_toArray, List.all_map, List.all_eq_true]
              intro _ _
              rfl
            have h0 : (List.map (fun _ => Value.type "tuple") (v :: vs)).toArray[0]? = some (Value.type "tuple") := by simp
            rw [h0]
            simp only [hall2, if_true]
            exact wpAny_pure (wpAny_pure q)
theorem keyLt_general (x y : Value) : keyLt' general' x y = oneLt' false x y := rfl
/-- values that read as tuples that are alike can be sorted -/
theorem sortsAt_tups {vs : List Value} {ds : List PyData} (e : EachIs (fun v d => ∃ as, Reads s.heap v d as) vs ds) (hal : AllAlike ds) (ht : ∀ d, d ∈ ds → ∃ xs, d = .tuple xs) (hu : ∀ d, d ∈ ds → A.units + d.depth < cLine) : SortsAt prog w A s (dataKind s.heap ds) vs := by
  by_cases hno : ∃ d, d ∈ ds ∧ hasItem d = false
  · obtain ⟨k, hk, hkd⟩ := kind_tups (A := A) e ht hno
    refine ⟨fun v hv => ?_, k, ?_, fun _ E Q q => hkd _ E Q q⟩
    · obtain ⟨d, hd, as, r⟩ := e.left v hv
      exact ⟨_, dataKind_some hal hd r⟩
    · intro E x y a b Q ha hb hq
      obtain ⟨d, as, hd, ra, rfl⟩ := dataKind_inv ha
      obtain ⟨d', as', hd', rb, rfl⟩ := dataKind_inv hb
      have hr : A.units + min d.depth d'.depth < cLine := Nat.lt_of_le_of_lt (Nat.add_le_add_left (Nat.min_le_left _ _) _) (hu d hd)
      obtain ⟨xs, rfl⟩ := ht d hd
      obtain ⟨ys, rfl⟩ := ht d' hd'
      rcases hk with rfl | rfl
      · rw [keyLt'_oneType]
        have hx : ∃ x', x = .ref x' := by cases ra; exact ⟨_, rfl⟩
        have hy : ∃ y', y = .ref y' := by cases rb; exact ⟨_, rfl⟩
        obtain ⟨x', rfl⟩ := hx
        obtain ⟨y', rfl⟩ := hy
        exact oneLt_tups ra rb (hal _ hd _ hd') hr hq
      · rw [keyLt_general]
        refine kat_one _ _ (lt_data ra rb (hal _ hd _ hd') (by simp) hr ?_)
        exact hq
  · refine SortsAt.data e hal (.inl fun d hd => ?_) hu
    obtain ⟨xs, rfl⟩ := ht d hd
    cases xs with
    | nil => exact absurd ⟨_, hd, rfl⟩ hno
    | cons x r => exact ⟨x, r, rfl⟩
end
end DL

/-! sorted(x), x a list, a tuple or a dict -/
namespace DL
open PySem PySem.Spec PyProof.Rows L2
section
open PySem.W PySem.Calls PySem.SeqAt
variable {prog : Program} {w : World} {A : Around} {s : Shared}
theorem collect_tup {l : Addr} {vs : List Value} {E : Value → Shared → Prop} {Q : List Value → Shared → Prop} (hl : s.heap.IsTuple l vs.toArray)
    (h : Q vs { s with heap := (s.heap.push (seqObj "list" #[] 0)).update s.heap.objs.size (Obj.mapSeq (· ++ vs.toArray)) }) (hsz : vs.length ≤ sizeLine := by size_fits) :
    wpAny (model prog w) A (collect (.ref l)) Q E s := by
  obtain ⟨o, ho, hc, n, hd⟩ := id hl
  unfold collect
  refine wpAny_bind (wpAny_runValue (codeAny_builtin entry_proto_collect' ?_))
  show wpAny _ _ (do again (.builtin "list.__iadd__" ⟨[← newList [], .ref l], []⟩)) _ _ s
  refine wpAny_bind (wpAny_newList (wpAny_pure ⟨Code.quiet_builtin _ (by decide +kernel), codeAny_builtin entry_list_iadd' ?_⟩))
  show wpAny _ _ (Builtin.List.listExtendWith (.ref s.heap.objs.size) (.ref l) (.ref s.heap.objs.size)) _ _ { s with heap := s.heap.push (seqObj "list" #[] 0) }
  unfold Builtin.List.listExtendWith
  have ho' : (s.heap.push (seqObj "list" #[] 0)).get? l = some o := Heap.get?_push_of_some _ ho
  refine wpAny_bind (wpAny_typeOf (T := "tuple") ⟨o, ho', hc⟩ ?_)
  have ht : (Value.type "tuple" == Value.type "tuple") = true := by rfl
  rw [if_pos (by rw [ht]; simp)]
  refine wpAny_bind (listItems_at ho' hd ?_)
  refine wpAny_bind (listItems_at (xs := #[]) (n := 0) (Heap.get?_push_size _ rfl) rfl ?_)
  rw [if_neg (by simp)]
  refine wpAny_bind (listUpdate_at (xs := #[]) (n := 0) (Heap.get?_push_size _ rfl) rfl ?_ (Nat.zero_le _) (by show (#[] ++ vs.toArray).size ≤ sizeLine + 1; simp only [Array.size_append, List.size_toArray, List.length_nil]; omega))
  refine wpAny_pure ?_
  show wpAny (model prog w) A (do
      let o ← load s.heap.objs.size
      match o.data with
      | .seq xs _ => pure xs.toList
      | _ => unsupported "internal:collect") Q E { s with heap := (s.heap.push (seqObj "list" #[] 0)).update s.heap.objs.size (Obj.mapSeq (· ++ vs.toArray)) }
  refine wpAny_bind (wpAny_load (get?_update_seq (Heap.get?_push_size _ rfl) _) ?_)
  show wpAny _ _ (pure ((#[] : Array Value) ++ vs.toArray).toList) Q E _
  rw [show ((#[] : Array Value) ++ vs.toArray).toList = vs by simp]
  exact wpAny_pure h
/-- sorted(x) of what can be collected -/
theorem sorted_gen {β : Type} {bs : List β} {enc : β → PyData} {R : Value → β → Prop} {E : Value → Shared → Prop} {x : Value} {Q : Value → Shared → Prop}
    (hc : ∀ (E' : Value → Shared → Prop) (Q' : List Value → Shared → Prop), (∀ vs h1 tk, (∀ b o, s.heap.get? b = some o → h1.get? b = some o) → EachIs R vs bs → Q' vs { s with heap := h1, toks := tk }) → wpAny (model prog w) A.in1 (collect x) Q' E' s)
    (hr : ∀ v b, R v b → ∃ as, Reads s.heap v (enc b) as) (hal : AllAlike (bs.map enc))
    (hk : Sortable (bs.map enc) ∨ ∀ d, d ∈ bs.map enc → ∃ xs, d = .tuple xs) (hL : bs.length ≤ sizeLine) (hu : ∀ b, b ∈ bs → A.units + 2 + (enc b).depth < cLine)
    (h : ∀ out d (h1 h2 : Heap) tk, (∀ b o, s.heap.get? b = some o → h1.get? b = some o) → (∀ b o, h1.get? b = some o → h2.get? b = some o) → h1.objs.size ≤ d → (∃ c, h2.get? d = some (seqObj "list" (List.toArray out) c)) → EachIs R out (bs.mergeSort (dataLe false enc)) → Q (.ref d) { s with heap := h2, toks := tk }) :
    wpAny (model prog w) A (call (.builtin "sorted") [x]) Q E s := by
  refine Calls.call_function_entry kind_sorted plain_sorted entry_sorted (args_sorted1 _) ?_
  unfold Builtin.«sorted»
  refine wpAny_bind (m := checkCount "sorted" 1 1 _) (wpAny_pure ?_)
  refine wpAny_bind (hc _ _ fun vs h1 tk keep e => ?_)
  have hlv : vs.length = bs.length := e.length
  refine wpAny_bind (wpAny_newList ?_ (by rw [hlv]; exact hL))
  have hoL : (h1.push (seqObj "list" vs.toArray 0)).get? h1.objs.size = some (seqObj "list" vs.toArray 0) := Heap.get?_push_size _ rfl
  have old : ∀ b o, s.heap.get? b = some o → b ≠ h1.objs.size ∧ (h1.push (seqObj "list" vs.toArray 0)).get? b = some o := fun b o q => by
    have q1 := keep b o q
    exact ⟨Nat.ne_of_lt (Heap.lt_size q1), Heap.get?_push_of_some _ q1⟩
  show wpAny _ _ _ _ _ { s with heap := h1.push (seqObj "list" vs.toArray 0), toks := tk }
  have er : EachIs (fun v b => ∃ as, Reads (sortingHeap (h1.push (seqObj "list" vs.toArray 0)) h1.objs.size vs) v (enc b) as) vs bs := e.mono fun v b q => by
    obtain ⟨as, r⟩ := hr v b q
    exact ⟨as, PyProof.Rows.Reads.keeps (fun b o z => sortingHeap_old (old b o z).1 (old b o z).2) r⟩
  have S : SortsAt prog w A.in1.in1 { s with heap := sortingHeap (h1.push (seqObj "list" vs.toArray 0)) h1.objs.size vs, toks := tk } (dataKind (sortingHeap (h1.push (seqObj "list" vs.toArray 0)) h1.objs.size vs) (bs.map enc)) vs := by
    have e2 := each_map (R := fun v d => ∃ as, Reads (sortingHeap (h1.push (seqObj "list" vs.toArray 0)) h1.objs.size vs) v d as) enc er
    have hu2 : ∀ d, d ∈ bs.map enc → A.in1.in1.units + d.depth < cLine := bound_map hu
    rcases hk with hk | hk
    · exact SortsAt.data (s := { s with heap := sortingHeap (h1.push (seqObj "list" vs.toArray 0)) h1.objs.size vs, toks := tk }) e2 hal hk hu2
    · exact sortsAt_tups (s := { s with heap := sortingHeap (h1.push (seqObj "list" vs.toArray 0)) h1.objs.size vs, toks := tk }) e2 hal hk hu2
  refine wpAny_bind (wpAny_holding (wpAny_call_entry slot_list_sort ⟨_, hoL, rfl⟩ entry_list_sort (list_sort_vals (s := { s with heap := h1.push (seqObj "list" vs.toArray 0), toks := tk }) hoL S (by rw [hlv]; exact hL) ⟨_, rfl, ?_⟩) (args_list_sort _)))
  refine wpAny_pure ⟨_, rfl, ?_⟩
  refine h _ h1.objs.size h1 _ tk keep (fun b o q => ?_) (Nat.le_refl _) (PyProof.Rows.sortedHeap_at (vs := vs) (out := (List.toArray _)) hoL) (sortVals_data false e er hal)
  have q2 : (h1.push (seqObj "list" vs.toArray 0)).get? b = some o := Heap.get?_push_of_some _ q
  rw [PyProof.Rows.sortedHeap_old (Nat.ne_of_lt (Heap.lt_size q)) (Heap.lt_size q2)]
  exact q2
end
/-! ### data -/
def D.le (x y : D) : Bool := !D.lt y x
def sortD (xs : List D) : List D := xs.mergeSort D.le
/-- these can be sorted -/
structure SortOk (xs : List D) : Prop where
  len : xs.length ≤ sizeLine
  pl : ∀ x ∈ xs, x.pl 50 = true
  al : ∀ x ∈ xs, ∀ y ∈ xs, PySem.W.alike x.py y.py = true
  kd : (∀ x ∈ xs, ∃ ys, x = .tup ys) ∨ ∀ x ∈ xs, x ≠ .non ∧ (∀ ys, x ≠ .tup ys) ∧ ∀ ys, x ≠ .con ys
theorem SortOk.kind {xs : List D} (h : SortOk xs) : PySem.W.Sortable (xs.map D.py) ∨ ∀ d, d ∈ xs.map D.py → ∃ ys, d = .tuple ys := by
  rcases h.kd with k | k
  · refine .inr fun d hd => ?_
    obtain ⟨x, hx, rfl⟩ := List.mem_map.mp hd
    obtain ⟨ys, rfl⟩ := k x hx
    exact ⟨D.pys ys, by simp [D.py]⟩
  · refine .inl (.inr fun d hd => ?_)
    obtain ⟨x, hx, rfl⟩ := List.mem_map.mp hd
    have hp := h.pl x hx
    obtain ⟨k1, k2, k3⟩ := k x hx
    cases x with
    | non => exact absurd rfl k1
    | tup ys => exact absurd rfl (k2 ys)
    | obj _ => simp [D.pl] at hp
    | dct _ _ => simp [D.pl] at hp
    | con ys => exact absurd rfl (k3 ys)
    | bl b => exact ⟨by simp [D.py], by simp [D.py]⟩
    | int b => exact ⟨by simp [D.py], by simp [D.py]⟩
    | str b => exact ⟨by simp [D.py], by simp [D.py]⟩
    | lst b => exact ⟨by simp [D.py], by simp [D.py]⟩
theorem SortOk.alike {xs : List D} (h : SortOk xs) : PySem.W.AllAlike (xs.map D.py) := by
  intro d hd d' hd'
  obtain ⟨x, hx, rfl⟩ := List.mem_map.mp hd
  obtain ⟨y, hy, rfl⟩ := List.mem_map.mp hd'
  exact h.al x hx y hy
/-- the value stands for the data -/
def IsD0 (K : PySem.W.Frag) (G : Hp) (v : Value) (d : D) : Prop := ∃ x : V, RelV x v ∧ Rep K G d x
theorem each_rep {K : PySem.W.Frag} {G : Hp} : ∀ {vs : List Value} {ds : List D}, PySem.W.EachIs (IsD0 K G) vs ds → ∃ xs : List V, Vals xs vs ∧ RepL K G ds xs
  | _, _, .nil => ⟨[], .nil, rfl⟩
  | _, _, .cons ⟨x, r, h⟩ t => by
    obtain ⟨xs, r2, h2⟩ := each_rep t
    exact ⟨x :: xs, .cons r r2, x, xs, rfl, h, h2⟩
theorem rep_each {K : PySem.W.Frag} {G : Hp} : ∀ {ds : List D} {xs : List V} {vs : List Value}, RepL K G ds xs → Vals xs vs → PySem.W.EachIs (IsD0 K G) vs ds
  | [], xs, vs, h, r => by
    have h : xs = [] := h
    subst h
    cases r
    exact .nil
  | d :: ds, xs, vs, ⟨x, xr, e, h1, h2⟩, r => by
    subst e
    cases r with
    | cons a b => exact .cons ⟨x, a, h1⟩ (rep_each h2 b)
section
variable {X : Cx} {W : WX}
/-- what can be collected from a -/
def CollOk (X : Cx) (pins : List (Addr × Obj)) (σ : L2.St) (H : Hp) (s : Shared) (a : Addr) (ds : List D) (G : Hp) : Prop :=
  Sub G H ∧ ∀ (E' : Value → Shared → Prop) (Q' : List Value → Shared → Prop), (∀ vs h1 tk, (∀ b o, s.heap.get? b = some o → h1.get? b = some o) → PySem.W.EachIs (IsD0 X.K G) vs ds → Q' vs { s with heap := h1, toks := tk }) → wpAny (model X.prog X.w) X.A.in1 (collect (.ref a)) Q' E' s
theorem isd_reads {pins : List (Addr × Obj)} {σ : L2.St} {H : Hp} {s : Shared} (I : Inv X pins σ H s) {G : Hp} (sg : Sub G H) {v : Value} {d : D} (hp : d.pl 50 = true) (h : IsD0 X.K G v d) : ∃ as, Reads s.heap v d.py as := by
  obtain ⟨x, r, h⟩ := h
  exact Dp.reads I d.py x v (Rep.dp d 50 x hp (h.mono sg)) r
theorem sort_rule {pins : List (Addr × Obj)} {σ : L2.St} {H : Hp} {s : Shared} {a : Addr} {ds : List D} {G : Hp} {Q : VK} (hu : X.A.units + 64 < cLine) (I : Inv X pins σ H s) (hc : CollOk X pins σ H s a ds G) (ok : SortOk ds)
    (q : ∀ p ys, H p = none → RepL X.K G (sortD ds) ys → Q (.ref p) (upd H p (.lst ys))) : wpAny (model X.prog X.w) X.A (call (.builtin "sorted") [.ref a]) (EP X pins σ Q) X.xe s := by
  obtain ⟨sg, hc⟩ := hc
  have key : ∀ v d, (IsD0 X.K G v d ∧ d ∈ ds) → ∃ as, Reads s.heap v d.py as := fun v d h => isd_reads I sg (ok.pl d h.2) h.1
  refine sorted_gen (R := fun v d => IsD0 X.K G v d ∧ d ∈ ds) (enc := D.py) (bs := ds) (fun E' Q' hq => hc E' Q' fun vs h1 tk k e => hq vs h1 tk k (PySem.W.each_mem e)) key ok.alike ok.kind ok.len (fun b hb => ?_) fun out d h1 h2 tk keep keep2 hd hat e => ?_
  · have := (py_can b 50 (ok.pl b hb)).2
    omega
  · obtain ⟨ys, r1, r2⟩ := each_rep (e.mono fun v d z => z.1)
    obtain ⟨c, hat⟩ := hat
    have hlen : ys.length ≤ sizeLine := by
      rw [r2.length, List.length_mergeSort]
      exact ok.len
    exact ⟨.ref d, upd H d (.lst ys), (I.kept (t' := tk) keep).laid (t' := tk) keep2 hd ⟨hlen, out, c, r1, hat⟩, rfl, q d ys ((I.kept (t' := tk) keep).hok.fresh hd) r2⟩
/-- lists, tuples -/
def SrcSeq (K : PySem.W.Frag) (H : Hp) (a : Addr) (ds : List D) (G : Hp) : Prop := Sub G H ∧ ∃ vs, (SqL K H a vs ∨ SqT K H a vs) ∧ RepL K G ds vs
theorem coll_seq {pins : List (Addr × Obj)} {σ : L2.St} {H : Hp} {s : Shared} {a : Addr} {ds : List D} {G : Hp} (I : Inv X pins σ H s) (h : SrcSeq X.K H a ds G) : CollOk X pins σ H s a ds G := by
  obtain ⟨sg, vs, h1, h2⟩ := h
  refine ⟨sg, fun E' Q' hq => ?_⟩
  rcases h1 with h1 | h1
  · obtain ⟨its, rv, p, hz⟩ := I.list h1
    refine collect_list p.isList (hq its _ _ (fun b o e => ?_) (rep_each h2 rv)) (by rw [← rv.length]; exact hz)
    rw [Heap.get?_update_ne _ _ _ _ (Nat.ne_of_lt (Heap.lt_size e))]
    exact Heap.get?_push_of_some _ e
  · obtain ⟨its, rv, p, hz⟩ := I.tuple h1
    refine collect_tup p (hq its _ _ (fun b o e => ?_) (rep_each h2 rv)) (by rw [← rv.length]; exact hz)
    rw [Heap.get?_update_ne _ _ _ _ (Nat.ne_of_lt (Heap.lt_size e))]
    exact Heap.get?_push_of_some _ e
/-- dicts of numbers and texts -/
theorem coll_dK {pins : List (Addr × Obj)} {σ : L2.St} {H : Hp} {s : Shared} {a : Addr} {kvs : List (Key × V)} {G : Hp} (hcalm : X.calm = true) (I : Inv X pins σ H s) (sg : Sub G H) (hd : Rd H a (.dK kvs)) : CollOk X pins σ H s a (kvs.map fun p => keyD p.1) G := by
  refine ⟨sg, fun E' Q' hq => ?_⟩
  obtain ⟨z, lo, vs, rel, dd⟩ := dk_rd I.hok hd
  obtain ⟨ep, hat⟩ := dd.dictAt
  have hl : vs.length = kvs.length := by
    have e := congrArg List.length rel.keys
    rw [List.length_map, List.length_map] at e
    exact e.symm
  refine PySem.W.kdu_collect (A := X.A.in1) (PySem.W.kdl_dict (knd := mixKind X.prog X.w) (kvs := vs) (ep := ep) lo) (I.ok.hd hcalm) hat (by rw [hl]; exact z) fun h' tk acc hk hacc => ?_
  refine hq _ _ _ hk ?_
  have hal : acc.toList.length = kvs.length := by rw [Array.length_toList, hacc.1, hl]
  have e1 : (kvs.map fun p => keyD p.1) = (kvs.map (·.1)).map keyD := by rw [List.map_map]; rfl
  rw [e1, rel.keys]
  refine rep_each (xs := (vs.map (·.1)).map kV) ?_ (vals_of_at (by rw [List.length_map, List.length_map, hal, hl]) fun j x w h1 h2 => ?_)
  · generalize vs.map (·.1) = ks
    induction ks with
    | nil => rfl
    | cons k ks ih => exact ⟨kV k, ks.map kV, rfl, by cases k <;> rfl, ih⟩
  · obtain ⟨k, y, hky, hi⟩ := hacc.2 j w (by rw [← Array.getElem?_toList]; exact h2)
    rw [List.getElem?_map, List.getElem?_map, hky] at h1
    cases h1
    exact keyIs_rel hi
/-- dicts of tuples -/
theorem coll_dT {pins : List (Addr × Obj)} {σ : L2.St} {H : Hp} {s : Shared} {a : Addr} {kvs : List (List Key × V)} (hcalm : X.calm = true) (I : Inv X pins σ H s) (hd : Rd H a (.dT kvs)) :
    ∃ bs : List Addr, (∀ b ∈ bs, ∃ vs, H b = some (.tup vs)) ∧ ∀ G, Sub G H → (∀ b ∈ bs, G b = H b) → CollOk X pins σ H s a (kvs.map fun p => keyT p.1) G := by
  obtain ⟨z, hs, ks, pr, o, es, ep, ho, hx, hdt, he, hn⟩ := (show ObjOk X.prog X.w H s.heap a (.dT kvs) from hd.ok I.hok)
  have l1 : es.size = ks.length := size_of_entries he
  have l2 : kvs.length = ks.length := Paired.length pr
  have ik := isKeys_of pr
  refine ⟨ks.map fun x => x.2.1, ?_, fun G sg hG => ⟨sg, fun E' Q' hq => ?_⟩⟩
  · intro b hb
    unfold IsKeys at ik
    have : ∀ {l : List (List Key × V)} {m : List Addr}, Paired (fun p b => H b = some (.tup (p.1.map kV))) l m → ∀ b ∈ m, ∃ vs, H b = some (.tup vs) := by
      intro l m q
      induction q with
      | nil => intro b hb; cases hb
      | cons h t ih =>
        intro b hb
        rcases List.mem_cons.mp hb with e | hb
        · subst e; exact ⟨_, h⟩
        · exact ih b hb
    exact this ik b hb
  · refine PySem.W.kdu_collect (A := X.A.in1) (kdl_raw hs hx hdt) (I.ok.hd hcalm) ho (by omega) fun h' tk acc' kp it => ?_
    refine hq _ _ _ kp ?_
    have ea : acc'.toList = ks.map fun x => Value.ref x.2.1 := by
      have hl : acc'.toList.length = ks.length := by rw [Array.length_toList, it.1]; exact l1
      apply List.ext_getElem?
      intro j
      rw [List.getElem?_map]
      cases hj : acc'.toList[j]? with
      | none =>
        have h1 := List.getElem?_eq_none_iff.mp hj
        rw [List.getElem?_eq_none (by omega)]
        all_goals rfl
      | some v =>
        obtain ⟨en, hen, hv⟩ := it.2 j v (by rw [← Array.getElem?_toList]; exact hj)
        have qe := entry_at he j
        rw [hen] at qe
        cases hb : ks[j]? with
        | none =>
          rw [hb] at qe
          exact nomatch (show some en = none from qe)
        | some b =>
          rw [hb] at qe
          have e2 : en = entryOfKey (tupleKind (mixKind X.prog X.w)) b := Option.some.inj qe
          rw [hv, e2]
          rfl
    rw [ea]
    have gen : ∀ {l : List (List Key × V)} {m : List (List Key × Addr × Value)}, Paired (fun p b => H b = some (.tup (p.1.map kV))) l (m.map fun x => x.2.1) → (∀ x ∈ m, G x.2.1 = H x.2.1) → RepL X.K G (l.map fun p => keyT p.1) (m.map fun x => V.ref x.2.1) := by
      intro l
      induction l with
      | nil => intro m q _; cases m with
        | nil => rfl
        | cons x m => cases q
      | cons p l ih =>
        intro m q hm
        cases m with
        | nil => cases q
        | cons x m =>
          cases q with
          | cons h t =>
            refine ⟨V.ref x.2.1, m.map fun x => V.ref x.2.1, rfl, ⟨x.2.1, p.1.map kV, rfl, ?_, ?_⟩, ih t fun y hy => hm y (List.mem_cons_of_mem _ hy)⟩
            · rw [hm x List.mem_cons_self]; exact h
            · generalize p.1 = ks'
              induction ks' with
              | nil => rfl
              | cons k ks' ih => exact ⟨kV k, ks'.map kV, rfl, by cases k <;> rfl, ih⟩
    refine rep_each (gen ik fun x hx => hG _ (List.mem_map.mpr ⟨x, hx, rfl⟩)) ?_
    have e3 : (ks.map fun x => V.ref x.2.1) = (ks.map fun x => x.2.1).map V.ref := by rw [List.map_map]; rfl
    have e4 : (ks.map fun x => Value.ref x.2.1) = (ks.map fun x => x.2.1).map Value.ref := by rw [List.map_map]; rfl
    rw [e3, e4]
    exact vals_refs _
/-- what a walk over the data yields -/
def D.items : D → Option (List D)
  | .lst xs => some xs
  | .tup xs => some xs
  | .dct _ kvs => some (kvs.map (·.1))
  | _ => none
open Classical in
noncomputable def dSorted : D → Res D := fun d => match d.items with
  | some xs => if SortOk xs then .ok (.lst (sortD xs)) else .bad
  | none => .bad
def rSorted0 (X : Cx) : List V → Hp → VK → Prop := fun xs H Q => ∃ (a : Addr) (ds : List D), xs = [V.ref a] ∧ SortOk ds ∧
  ((∃ G, SrcSeq X.K H a ds G ∧ ∀ p ys, H p = none → RepL X.K G (sortD ds) ys → Q (.ref p) (upd H p (.lst ys))) ∨
   (∃ kvs, Rd H a (.dK kvs) ∧ ds = kvs.map (fun p => keyD p.1) ∧ ∃ G, Sub G H ∧ ∀ p ys, H p = none → RepL X.K G (sortD ds) ys → Q (.ref p) (upd H p (.lst ys))) ∨
   (∃ kvs, Rd H a (.dT kvs) ∧ ds = kvs.map (fun p => keyT p.1) ∧ ∀ (bs : List Addr) G, (∀ b ∈ bs, ∃ vs, H b = some (.tup vs)) → Sub G H → (∀ b o, G b = some o → b ∈ bs) → ∀ p ys, H p = none → RepL X.K G (sortD ds) ys → Q (.ref p) (upd H p (.lst ys))))
open Classical in
theorem cr_sorted0 (hcalm : X.calm = true) (hu : X.A.units + 64 < cLine) : CallR X (.builtin "sorted") (rSorted0 X) := by
  intro pins s σ H xs us Q I r h
  obtain ⟨a, ds, rfl, ok, h⟩ := h
  obtain ⟨u, rfl, ru⟩ := vals1 r
  obtain rfl : u = Value.ref a := ru
  rcases h with ⟨G, h1, q⟩ | ⟨kvs, h1, rfl, G, sg, q⟩ | ⟨kvs, h1, rfl, q⟩
  · exact sort_rule hu I (coll_seq I h1) ok q
  · exact sort_rule hu I (coll_dK hcalm I sg h1) ok q
  · obtain ⟨bs, b1, b2⟩ := coll_dT hcalm I h1
    have hG : Sub (fun b => if b ∈ bs then H b else none) H := fun b o e => by
      dsimp only at e
      split at e
      · exact e
      · cases e
    refine sort_rule hu I (b2 (fun b => if b ∈ bs then H b else none) hG fun b hb => if_pos hb) ok (q bs _ b1 hG fun b o e => ?_)
    split at e
    · assumption
    · cases e
open Classical in
theorem c1_sorted (hcalm : X.calm = true) (hu : X.A.units + 64 < cLine) : Call1F X W (.builtin "sorted") dSorted := by
  refine ⟨_, cr_sorted0 hcalm hu, fun σ H G x dx Q sg rx p => ?_⟩
  unfold dSorted at p
  cases hi : dx.items with
  | none => rw [hi] at p; exact p.elim
  | some ds =>
    rw [hi] at p
    dsimp only at p
    by_cases ok : SortOk ds
    · rw [if_pos ok] at p
      have fin : ∀ G2, Ext H G H G2 → ∀ q ys, H q = none → RepL X.K G2 (sortD ds) ys → Q (.ref q) (upd H q (.lst ys)) := fun G2 x2 q ys hq r =>
        p (upd H q (.lst ys)) G2 ⟨x2.hh.trans (Sub.upd hq), x2.gg, x2.gh.trans (Sub.upd hq), x2.new⟩ q hq (x2.gh.free hq) ⟨ys, upd_same, r⟩
      cases dx with
      | lst xs =>
        cases hi
        obtain ⟨a, vs, rfl, s, r⟩ := rx
        exact ⟨a, _, rfl, ok, .inl ⟨G, ⟨sg, vs, .inl s, r⟩, fin G (Ext.refl sg)⟩⟩
      | tup xs =>
        cases hi
        obtain ⟨a, vs, rfl, s, r⟩ := (show Rep X.K G (.tup _) x from rx)
        exact ⟨a, _, rfl, ok, .inl ⟨G, ⟨sg, vs, .inr (sg.pt s), r⟩, fin G (Ext.refl sg)⟩⟩
      | dct t kvs =>
        cases hi
        obtain ⟨a, rfl, h⟩ := rx
        rcases h with ⟨t0, ps, s, hkeys, rv⟩ | ⟨t0, ps, s, hkeys, rv⟩
        · exact ⟨a, _, rfl, ok, .inr (.inl ⟨ps, s, hkeys, G, sg, fin G (Ext.refl sg)⟩)⟩
        · refine ⟨a, _, rfl, ok, .inr (.inr ⟨ps, s, hkeys, fun bs G1 hb sg1 hG1 q ys hq r => ?_⟩)⟩
          have s2 : Sub G (fun b => if b ∈ bs then H b else G b) := fun b o e => by
            dsimp only
            by_cases hbb : b ∈ bs
            · rw [if_pos hbb]; exact sg _ _ e
            · rw [if_neg hbb]; exact e
          have s3 : Sub G1 (fun b => if b ∈ bs then H b else G b) := fun b o e => by
            dsimp only
            rw [if_pos (hG1 b o e)]; exact sg1 _ _ e
          have s4 : Sub (fun b => if b ∈ bs then H b else G b) H := fun b o e => by
            dsimp only at e
            by_cases hbb : b ∈ bs
            · rw [if_pos hbb] at e; exact e
            · rw [if_neg hbb] at e; exact sg _ _ e
          refine fin _ ⟨Sub.refl H, s2, s4, fun b e => ?_⟩ q ys hq (r.mono s3)
          by_cases hbb : b ∈ bs
          · exact .inr (.inr (hb b hbb))
          · rw [if_neg hbb] at e; exact .inl e
      | _ => cases hi
    · rw [if_neg ok] at p; exact p.elim
end
end DL

/-! rules that look at the data: index, in, is, slices with a step, methods -/
namespace DL
open PySem PySem.Spec PyProof.Rows L2
open PySem.Builtin.Int (intBits)
section
variable {X : Cx} {W : WX} {A : Nat → Prop} {a b c ex : Expr} {pos p p1 p2 apos cpos : Pos}
/-- either of two readings, as the data say -/
theorem de_pick {f f1 f2 : DL.Env → Res D} (h1 : DE X W A ex f1) (h2 : DE X W A ex f2) (hf : ∀ e, f e = f1 e ∨ f e = f2 e ∨ f e = .bad) : DE X W A ex f :=
  ⟨fun pins s σ H Q I ⟨e, G, E, q⟩ => by
    rcases hf e with z | z | z
    · rw [z] at q; exact h1.run pins s σ H Q I ⟨e, G, E, q⟩
    · rw [z] at q; exact h2.run pins s σ H Q I ⟨e, G, E, q⟩
    · rw [z] at q; exact q.elim⟩
theorem dt_pick {f f1 f2 : DL.Env → Res Bool} (h1 : DT X W A ex f1) (h2 : DT X W A ex f2) (hf : ∀ e, f e = f1 e ∨ f e = f2 e ∨ f e = .bad) : DT X W A ex f :=
  ⟨fun pins s σ H Q I ⟨e, G, E, q⟩ => by
    rcases hf e with z | z | z
    · rw [z] at q; exact h1.run pins s σ H Q I ⟨e, G, E, q⟩
    · rw [z] at q; exact h2.run pins s σ H Q I ⟨e, G, E, q⟩
    · rw [z] at q; exact q.elim⟩
theorem eOp_pick {g g1 g2 : D → D → Res D} {fa fb : DL.Env → Res D} (h : ∀ x y, g x y = g1 x y ∨ g x y = g2 x y ∨ g x y = .bad) (e : DL.Env) : eOp g fa fb e = eOp g1 fa fb e ∨ eOp g fa fb e = eOp g2 fa fb e ∨ eOp g fa fb e = .bad := by
  unfold eOp
  cases ha : fa e with
  | ok x =>
    cases hb : fb e with
    | ok y => exact h x y
    | exc _ _ => exact .inl rfl
    | bad => exact .inl rfl
  | exc _ _ => exact .inl rfl
  | bad => exact .inl rfl
theorem bTest_pick {g g1 g2 : D → D → Res D} {fa fb : DL.Env → Res D} (h : ∀ x y, g x y = g1 x y ∨ g x y = g2 x y ∨ g x y = .bad) (e : DL.Env) : bTest g fa fb e = bTest g1 fa fb e ∨ bTest g fa fb e = bTest g2 fa fb e ∨ bTest g fa fb e = .bad := by
  unfold bTest
  cases ha : fa e with
  | ok x =>
    cases hb : fb e with
    | ok y =>
      rcases h x y with z | z | z
      · exact .inl (by simp only [Res.bind_ok, z])
      · exact .inr (.inl (by simp only [Res.bind_ok, z]))
      · exact .inr (.inr (by simp only [Res.bind_ok, z, Res.bind_bad]))
    | exc _ _ => exact .inl rfl
    | bad => exact .inl rfl
  | exc _ _ => exact .inl rfl
  | bad => exact .inl rfl
/-! ### x[k] of any kind -/
noncomputable def dIxA (x y : D) : Res D := match x with
  | .dct t kvs => dAt (.dct t kvs) y
  | x => dIx x y
theorem de_ixA {fa fb : DL.Env → Res D} (hu : X.A.units + 1 < cLine) (ha : DR X W A a fa) (hb : DE X W A b fb) (hs : NoSl b) (hs2 : PlainIx b) : DE X W A (.Subscript a b pos) (eOp dIxA fa fb) :=
  de_pick (de_dix hu ha hb hs) (de_ix ha (dr hb) hs2) (eOp_pick fun x y => by cases x <;> first | exact .inl rfl | exact .inr (.inl rfl))
/-! ### is -/
def dIs : D → D → Res D
  | .bl a, .bl b => .ok (.bl (decide (a = b)))
  | .obj _, .non => .bad
  | .non, .non => .ok (.bl true)
  | _, .non => .ok (.bl false)
  | _, _ => .bad
def dIsNot (x y : D) : Res D := (dIs x y).bind fun z => match z with
  | .bl k => .ok (.bl (!k))
  | _ => .bad
theorem non_rep {K : PySem.W.Frag} {H G : Hp} {d : D} {v : V} (h : ∀ u, d ≠ .obj u) (r : RepC K H G d v) : decide (v = .non) = (match d with | .non => true | _ => false) := by
  cases d with
  | non => exact decide_eq_true r
  | bl b => exact decide_eq_false (by rw [show v = _ from r]; simp)
  | int b => exact decide_eq_false (by rw [show v = _ from r]; simp)
  | str b => exact decide_eq_false (by rw [show v = _ from r]; simp)
  | obj u => exact absurd rfl (h u)
  | tup _ => obtain ⟨a, vs, e, _⟩ := (show Rep K G (.tup _) v from r); subst e; rfl
  | con _ => obtain ⟨a, vs, e, _⟩ := (show Rep K G (.con _) v from r); subst e; rfl
  | lst _ => obtain ⟨a, vs, e, _⟩ := r; subst e; rfl
  | dct _ _ => obtain ⟨a, e, _⟩ := r; subst e; rfl
theorem od_is : OpD X W (compareOp .Is) dIs := by
  refine ⟨_, OpR.or op_isBl op_isN, fun σ H G x y dx dy Q sg rx ry p => ?_⟩
  cases dy with
  | bl b =>
    cases dx with
    | bl a => exact .inl ⟨a, b, rx, ry, PostG.val (d := .bl (decide (a = b))) p sg rfl⟩
    | _ => exact (show False from p).elim
  | non =>
    have hy : y = .non := ry
    refine .inr ⟨hy, ?_⟩
    by_cases ho : ∃ u, dx = .obj u
    · obtain ⟨u, rfl⟩ := ho
      exact (show False from p).elim
    · rw [non_rep (fun u z => ho ⟨u, z⟩) rx]
      cases dx with
      | obj u => exact absurd ⟨u, rfl⟩ ho
      | non => exact PostG.val (d := .bl true) p sg rfl
      | _ => exact PostG.val (d := .bl false) p sg rfl
  | _ => cases dx <;> exact (show False from p).elim
theorem od_isNot : OpD X W (compareOp .IsNot) dIsNot := by
  refine ⟨_, OpR.or op_notBl op_notN, fun σ H G x y dx dy Q sg rx ry p => ?_⟩
  cases dy with
  | bl b =>
    cases dx with
    | bl a => exact .inl ⟨a, b, rx, ry, PostG.val (d := .bl (!decide (a = b))) p sg rfl⟩
    | _ => exact (show False from p).elim
  | non =>
    have hy : y = .non := ry
    refine .inr ⟨hy, ?_⟩
    by_cases ho : ∃ u, dx = .obj u
    · obtain ⟨u, rfl⟩ := ho
      exact (show False from p).elim
    · rw [non_rep (fun u z => ho ⟨u, z⟩) rx]
      cases dx with
      | obj u => exact absurd ⟨u, rfl⟩ ho
      | non => exact PostG.val (d := .bl false) p sg rfl
      | _ => exact PostG.val (d := .bl true) p sg rfl
  | _ => cases dx <;> exact (show False from p).elim
/-! ### in, of lists, tuples and texts -/
def D.has (xs : List D) (k : D) : Bool := xs.any fun z => D.beq z k
def strIn (k s : Str) : Bool := !(Builtin.Str.occurrences s k 0 s.length 1).isEmpty
def dInS (no : Bool) : D → D → Res D := fun k c => match c with
  | .lst xs => if k.pl 50 = true ∧ D.pls xs 50 = true then .ok (.bl (D.has xs k != no)) else .bad
  | .tup xs => if k.pl 50 = true ∧ D.pls xs 50 = true then .ok (.bl (D.has xs k != no)) else .bad
  | .con xs => if k.pl 50 = true ∧ D.pls xs 50 = true then .ok (.bl (D.has xs k != no)) else .bad
  | .str s => match k with
    | .str k => .ok (.bl (strIn k s != no))
    | _ => .bad
  | _ => .bad
def rInT (K : PySem.W.Frag) (no : Bool) : R2 := fun x y H Q => ∃ d ds, Dp K H x d ∧ Dp K H y (.tuple ds) ∧ SeqAt.shaped d = true ∧ SeqAt.shaped (.tuple ds) = true ∧ Q (.bl ((ds.any fun z => PyData.eqv z d) != no)) H
theorem op_inT (hu : X.A.units + 65 < cLine) : OpR X (compareOp .In) (rInT X.K false) := by
  intro pins s σ H x y v u Q I rx ry h
  obtain ⟨d, ds, hd, he, sd, se, q⟩ := h
  obtain ⟨as, r1⟩ := Dp.reads I d x v hd rx
  obtain ⟨bs, r2⟩ := Dp.reads I (.tuple ds) y u he ry
  rw [Bool.bne_false] at q
  exact SeqAt.in_tuple_reads r2 r1 (SeqAt.canLay_of_shaped se) (SeqAt.canLay_of_shaped sd) (room_in_shaped sd hu) ⟨.bl _, H, I, rfl, q⟩
theorem any_pys (k : D) : ∀ xs : List D, ((D.pys xs).any fun z => PyData.eqv z k.py) = D.has xs k
  | [] => rfl
  | x :: xs => by
    unfold D.has
    rw [D.pys, List.any_cons, List.any_cons, any_pys k xs]
    rfl
theorem shaped_pyL {xs : List D} (h : D.pls xs 50 = true) : SeqAt.shaped (.list (D.pys xs)) = true := by
  have := shaped_py (d := .lst xs) (n := 51) (by simpa [D.pl] using h) (by decide)
  simpa [D.py] using this
theorem shaped_pyT {xs : List D} (h : D.pls xs 50 = true) : SeqAt.shaped (.tuple (D.pys xs)) = true := by
  have := shaped_py (d := .tup xs) (n := 51) (by simpa [D.pl] using h) (by decide)
  simpa [D.py] using this
theorem od_inS_gen {op : CmpOp} (no : Bool) (o1 : OpR X (compareOp op) fun x y H Q => ∃ d ds, Dp X.K H x d ∧ Dp X.K H y (.list ds) ∧ SeqAt.shaped d = true ∧ SeqAt.shaped (.list ds) = true ∧ Q (.bl ((ds.any fun z => PyData.eqv z d) != no)) H)
    (o2 : OpR X (compareOp op) (rInT X.K no)) (o3 : OpR X (compareOp op) fun x y H Q => ∃ i j, x = .str i ∧ y = .str j ∧ Q (.bl (strIn i j != no)) H) : OpD X W (compareOp op) (dInS no) := by
  refine ⟨_, OpR.or o1 (OpR.or o2 o3), fun σ H G x y dk dc Q sg rx ry p => ?_⟩
  cases dc with
  | lst xs =>
    dsimp only [dInS] at p
    by_cases hc : dk.pl 50 = true ∧ D.pls xs 50 = true
    · rw [if_pos hc] at p
      refine .inl ⟨dk.py, D.pys xs, Rep.dp dk 50 x hc.1 (rx.all sg (pl_nd hc.1)), ?_, shaped_py hc.1 (by decide), shaped_pyL hc.2, ?_⟩
      · obtain ⟨a, vs, rfl, s, r⟩ := ry
        exact .lst s (RepL.dp xs 50 vs hc.2 (r.mono sg))
      · rw [any_pys]; exact p.val sg rfl
    · rw [if_neg hc] at p; exact p.elim
  | tup xs =>
    dsimp only [dInS] at p
    by_cases hc : dk.pl 50 = true ∧ D.pls xs 50 = true
    · rw [if_pos hc] at p
      refine .inr (.inl ⟨dk.py, D.pys xs, Rep.dp dk 50 x hc.1 (rx.all sg (pl_nd hc.1)), ?_, shaped_py hc.1 (by decide), shaped_pyT hc.2, ?_⟩)
      · obtain ⟨a, vs, rfl, s, r⟩ := (show Rep X.K G (.tup xs) y from ry)
        exact .tup (sg.pt s) (RepL.dp xs 50 vs hc.2 (r.mono sg))
      · rw [any_pys]; exact p.val sg rfl
    · rw [if_neg hc] at p; exact p.elim
  | con xs =>
    dsimp only [dInS] at p
    by_cases hc : dk.pl 50 = true ∧ D.pls xs 50 = true
    · rw [if_pos hc] at p
      refine .inr (.inl ⟨dk.py, D.pys xs, Rep.dp dk 50 x hc.1 (rx.all sg (pl_nd hc.1)), ?_, shaped_py hc.1 (by decide), shaped_pyT hc.2, ?_⟩)
      · obtain ⟨a, vs, rfl, s, r⟩ := (show Rep X.K G (.con xs) y from ry)
        exact .tup (sg.sqt s) (RepL.dp xs 50 vs hc.2 (r.mono sg))
      · rw [any_pys]; exact p.val sg rfl
    · rw [if_neg hc] at p; exact p.elim
  | str s =>
    cases dk with
    | str k => exact .inr (.inr ⟨k, s, rx, ry, PostG.val (d := .bl (strIn k s != no)) p sg rfl⟩)
    | _ => exact (show False from p).elim
  | _ => exact (show False from p).elim
theorem od_inS (hu : X.A.units + 65 < cLine) : OpD X W (compareOp .In) (dInS false) :=
  od_inS_gen false (by
    have h := op_inD (X := X) hu
    unfold rInD at h
    simpa only [Bool.bne_false] using h) (op_inT hu) (by
    have h := op_in_str (X := X)
    unfold strIn
    simpa only [Bool.bne_false] using h)
noncomputable def dInA (no : Bool) (k c : D) : Res D := match c with
  | .dct t kvs => dIn no k (.dct t kvs)
  | c => dInS no k c
theorem inA_pick (no : Bool) (x y : D) : dInA no x y = dIn no x y ∨ dInA no x y = dInS no x y ∨ dInA no x y = .bad := by
  cases y <;> first | exact .inl rfl | exact .inr (.inl rfl)
theorem dt_inA {fa fb : DL.Env → Res D} (hu : X.A.units + 65 < cLine) (ha : DE X W A a fa) (hb : DR X W A b fb) (hm : behindInMarks .In b = false := by rfl) : DT X W A (.Compare a [.In] [b] pos) (bTest (dInA false) fa fb) :=
  dt_pick (dt_din (by omega) ha hb hm) (dt_cmp (od_inS hu) (dr ha) hb hm) (bTest_pick (inA_pick false))
theorem _root_.L2.Room.hu65 {k : Nat} {A : Around} (h : Room k A) : A.units + 65 < cLine := by have := h.un; omega
end
end DL

/-! methods, lists made, slices with a step -/
namespace DL
open PySem PySem.Spec PyProof.Rows L2
open PySem.Builtin.Int (intBits)
section
variable {X : Cx} {W : WX} {A : Nat → Prop} {a b c ex o e : Expr} {es : List Expr} {pos p p1 p2 p3 apos cpos : Pos} {T id : String} {name : Str}
/-! ### methods of a value that is read -/
def D.ofTy (T : String) : D → Bool
  | .lst _ => T == "list"
  | .str _ => T == "str"
  | .int _ => T == "int"
  | _ => false
def eMeth (T : String) (g : D → List D → Res D) (fo : DL.Env → Res D) (fs : DL.Env → Res (List D)) : DL.Env → Res D := fun e => (fo e).bind fun d => if D.ofTy T d = true then (fs e).bind fun ds => g d ds else .bad
def MethD (X : Cx) (W : WX) (T id : String) (g : D → List D → Res D) : Prop :=
  ∃ r, MtR X id r ∧ ∀ (σ : L2.St) (H G : Hp) (x : V) (vs : List V) (dx : D) (ds : List D) (Q : VK), Sub G H → D.ofTy T dx = true → RepC X.K H G dx x → RepL X.K G ds vs →
    PostG X.K X.mg (fun c o H' => W c o σ H') H G (g dx ds) (fun d H' G' => ∀ v, Rep X.K G' d v → Q v H') → r x vs H Q
theorem ofTy_tyV {K : PySem.W.Frag} {H G : Hp} {d : D} {v : V} (h : D.ofTy T d = true) (r : RepC K H G d v) : tyV K T v H := by
  cases d with
  | lst ds =>
    have : T = "list" := by simpa [D.ofTy] using h
    obtain ⟨a, vs, rfl, s, _⟩ := r
    exact .inl ⟨this, vs, s⟩
  | str z =>
    have : T = "str" := by simpa [D.ofTy] using h
    cases (show v = .str z from r)
    exact this
  | int z =>
    have : T = "int" := by simpa [D.ofTy] using h
    cases (show v = .int z from r)
    exact this
  | _ => cases h
theorem de_meth {g : D → List D → Res D} {fo : DL.Env → Res D} {fs : DL.Env → Res (List D)} (pa : PlainAttrs T) (slot : Slot T name id) (hty : typeOf (.builtin id) = pure (.type "method_descriptor")) (hm : MethD X W T id g) (ho : DR X W A o fo) (ha : DA X W A (e :: es) fs)
    (hbase : attributeBase o name X.env (eval o X.env) = eval o X.env := by rfl)
    (hfew : ((backTo cpos (starEach (e :: es) X.env)).all (fun x => !x.1) && (backToKw cpos (keywordEach [] X.env)).all (fun x => x.1.isSome)
      && decide ((e :: es).length + ([] : List Keyword).length + (if ([] : List Keyword).isEmpty then 0 else 1) < 30)) = true := by rfl)
    (hline : (apos.endLine == cpos.line) = true := by rfl) (hs : starEach (e :: es) X.env = (false, eval e X.env) :: starEach es X.env := by rfl) (hplain : (backTo cpos (starEach es X.env)).any (·.1) = false := by rfl) :
    DE X W A (.Call (.Attribute o name apos) (e :: es) [] cpos) (eMeth T g fo fs) := by
  obtain ⟨r, m1, m2⟩ := hm
  refine (pe_bm pa slot hty m1 ho ha hbase hfew hline hs hplain).imp fun σ H Q ⟨en, G, E, q⟩ => ⟨en, G, E, q.split.imp fun d H1 G1 x1 q1 v rv => ?_⟩
  by_cases hc : D.ofTy T d = true
  · rw [if_pos hc] at q1
    exact ⟨ofTy_tyV hc rv, en, G1, E.ext x1, q1.split.imp fun ds H2 G2 x2 q2 vs rs => m2 σ H2 G2 v vs d ds Q x2.gh hc (rv.mono x2.hh x2.gg) rs q2⟩
  · rw [if_neg hc] at q1; exact q1.elim
/-! ### l.remove(k), l.insert(i, k) -/
mutual
theorem py_plain : ∀ (d : D) (n : Nat), d.pl n = true → d.py.plain = true
  | .non, n, _ => by simp [D.py, PyData.plain]
  | .bl _, n, _ => by simp [D.py, PyData.plain]
  | .int _, n, _ => by simp [D.py, PyData.plain]
  | .str _, n, _ => by simp [D.py, PyData.plain]
  | .obj _, n, h => by simp [D.pl] at h
  | .dct _ _, n, h => by simp [D.pl] at h
  | .con xs, 0, h => by simp [D.pl] at h
  | .con xs, n + 1, h => by
    simp only [D.py, PyData.plain]
    exact pys_plain xs n (by simpa [D.pl] using h)
  | .tup xs, 0, h => by simp [D.pl] at h
  | .lst xs, 0, h => by simp [D.pl] at h
  | .tup xs, n + 1, h => by
    simp only [D.py, PyData.plain]
    exact pys_plain xs n (by simpa [D.pl] using h)
  | .lst xs, n + 1, h => by
    simp only [D.py, PyData.plain]
    exact pys_plain xs n (by simpa [D.pl] using h)
theorem pys_plain : ∀ (ds : List D) (n : Nat), D.pls ds n = true → PyData.plainAll (D.pys ds) = true
  | [], n, _ => by simp [D.pys, PyData.plainAll]
  | d :: r, n, h => by
    have h' : d.pl n = true ∧ D.pls r n = true := by simpa [D.pls] using h
    simp only [D.pys, PyData.plainAll, py_plain d n h'.1, pys_plain r n h'.2, Bool.and_self]
end
/-! ### list(range(..)) -/
/-! ### [x] * n -/
theorem repl_flat {K : PySem.W.Frag} {G : Hp} {ds : List D} {vs : List V} (h : RepL K G ds vs) : ∀ n, RepL K G (List.replicate n ds).flatten (List.replicate n vs).flatten
  | 0 => rfl
  | n + 1 => by
    rw [List.replicate_succ, List.replicate_succ, List.flatten_cons, List.flatten_cons]
    exact h.append (repl_flat h n)
end
end DL

/-! zip and enumerate over lists and tuples, mixed -/
namespace DL
open PySem PySem.Spec PyProof.Rows L2
open PySem.Builtin.Int (intBits)
/-! ### a side: a list (false) or a tuple (true) -/
/-! ### zip -/
theorem nn {m n : Nat} (h : @Ne Nat m n) : @Ne Addr m n := h
theorem ni {c m n : Nat} (h1 : @Ne Nat c m) (h2 : @Ne Nat c n) : @Not (@Membership.mem Addr (List Addr) _ [m, n] c) := fun h => by
  rcases List.mem_cons.mp h with e | h
  · exact h1 e
  · exact h2 (List.mem_singleton.mp h)
section
variable {X : Cx} {W : WX} {A : Nat → Prop} {a b : Expr} {p pos tpos : Pos} {elts : List Expr} {kk : Nat}
end
end DL

/-! enumerate over a list or a tuple; slices with a step -/
namespace DL
open PySem PySem.Spec PyProof.Rows L2
open PySem.Builtin.Int (intBits)
section
variable {X : Cx} {W : WX} {A : Nat → Prop} {a b c ex : Expr} {lo hi : Option Expr} {p p2 p3 pos tpos : Pos} {elts : List Expr} {kk : Nat}
/-! ### xs[lo:hi:step] -/
end
end DL

/-! list(reversed(l)) -/
namespace DL
open PySem PySem.Spec PyProof.Rows L2 RT
open PySem.Builtin.Int (intBits)
section
variable {prog : Program} {w : World} {A : Around} {E : Value → Shared → Prop} {s : Shared}
end
section
variable {X : Cx}
end
end DL

/-! {k: v, ..} with keys that are written out -/
namespace DL
open PySem PySem.Spec PyProof.Rows L2
open PySem.Builtin.Int (intBits)
section
variable {K : PySem.W.Frag} {mg : Str → Option Value} {W : WX} {A : Nat → Prop}
end
section
variable {X : Cx} {W : WX} {A : Nat → Prop} {pos : Pos}
end
end DL

/-! dict(d); dicts with number and text keys compared -/
namespace DL
open PySem PySem.Spec PyProof.Rows L2
open PySem.Builtin.Int (intBits)
section
variable {X : Cx} {W : WX}
/-! ### == -/
end
end DL

/-! max, min of a list of numbers -/
namespace DL
open PySem PySem.Spec PyProof.Rows L2
open PySem.Builtin.Int (intBits)
theorem ints_rep {K : PySem.W.Frag} {G : Hp} : ∀ {ds : List D} {ns : List Int} {vs : List V}, D.ints ds = some ns → RepL K G ds vs → vs = ns.map V.int
  | [], ns, vs, h, r => by cases h; exact r
  | d :: ds, ns, vs, h, r => by
    obtain ⟨v, r', rfl, a, b⟩ := r
    cases d with
    | int i =>
      have h' : (D.ints ds).map (fun t => i :: t) = some ns := h
      cases hi : D.ints ds with
      | none => rw [hi] at h'; cases h'
      | some t =>
        rw [hi] at h'
        cases h'
        rw [show v = .int i from a, ints_rep hi b]
        rfl
    | _ => cases h
section
variable {X : Cx} {W : WX}
end
end DL

/-! slices and sums of lists are new lists -/
namespace DL
open PySem PySem.Spec PyProof.Rows L2
open PySem.Builtin.Int (intBits)
section
variable {X : Cx} {W : WX} {A : Nat → Prop} {a b : Expr} {lo hi : Option Expr} {pos p2 : Pos}
end
end DL

/-! sets of numbers and texts made of a list: how many, and sorted -/
namespace DL
open PySem PySem.Spec PyProof.Rows L2
open PySem.Builtin.Int (intBits)
section
variable {α β : Type} {F : α → β → Prop}
theorem paired_perm {r r' : List β} (p : r'.Perm r) : ∀ {l : List α}, Paired F l r → ∃ l', l'.Perm l ∧ Paired F l' r' := by
  induction p with
  | nil => intro l q; cases q; exact ⟨[], .nil, .nil⟩
  | cons x p ih =>
    intro l q
    cases q with
    | cons h t => obtain ⟨l', a, b⟩ := ih t; exact ⟨_ :: l', a.cons _, .cons h b⟩
  | swap x y r =>
    intro l q
    cases q with
    | cons h t => cases t with
      | cons h2 t2 => exact ⟨_, List.Perm.swap _ _ _, .cons h2 (.cons h t2)⟩
  | trans p1 p2 ih1 ih2 =>
    intro l q
    obtain ⟨l1, a, b⟩ := ih2 q
    obtain ⟨l2, c, d⟩ := ih1 b
    exact ⟨l2, c.trans a, d⟩
theorem paired_right {l : List α} {r : List β} (h : Paired F l r) : ∀ e ∈ r, ∃ k ∈ l, F k e := by
  induction h with
  | nil => intro e he; cases he
  | cons a t ih =>
    intro e he
    rcases List.mem_cons.mp he with rfl | he
    · exact ⟨_, List.mem_cons_self, a⟩
    · obtain ⟨k, hk, f⟩ := ih e he; exact ⟨k, List.mem_cons_of_mem _ hk, f⟩
theorem paired_left {l : List α} {r : List β} (h : Paired F l r) : ∀ k ∈ l, ∃ e ∈ r, F k e := by
  induction h with
  | nil => intro e he; cases he
  | cons a t ih =>
    intro e he
    rcases List.mem_cons.mp he with rfl | he
    · exact ⟨_, List.mem_cons_self, a⟩
    · obtain ⟨k, hk, f⟩ := ih e he; exact ⟨k, List.mem_cons_of_mem _ hk, f⟩
theorem paired_len {l : List α} {r : List β} (h : Paired F l r) : l.length = r.length := by
  induction h with
  | nil => rfl
  | cons a t ih => simp [ih]
end
open Classical in
/-- each once -/
noncomputable def nubK : List Key → List Key
  | [] => []
  | k :: r => if k ∈ nubK r then nubK r else k :: nubK r
def GoodK (P : Program) (w : World) (k : Key) (e : Int × Value) : Prop := (mixKind P w).is k e.2 = true ∧ e.1 = (mixKind P w).hash k ∧ e.2.scannable = true
/-- a set of numbers and texts, that can be walked -/
def SetG (P : Program) (w : World) (h : Heap) (a : Addr) (ks : List Key) : Prop :=
  ∃ o es ep t ls, h.get? a = some o ∧ o.ExactSet ∧ o.data = .set es ep t ∧ Paired (GoodK P w) ls es.toList ∧ ls.Perm ks ∧ ks.Nodup ∧ es.size < scanBound ∧ t.fits es.size = true ∧ L2.Ris t.place.toList ∧ (w.params.followText "set-order" = true ∨ t.led = true)
section
variable {P : Program} {w : World} {A : Around} {E : Value → Shared → Prop} {s : Shared} {a : Addr} {ks : List Key}
theorem SetG.at {h h' : Heap} (R : SetG P w h a ks) (k : ∀ o, h.get? a = some o → h'.get? a = some o) : SetG P w h' a ks := by
  obtain ⟨o, es, ep, t, ls, ho, r⟩ := R
  exact ⟨o, es, ep, t, ls, k o ho, r⟩
theorem good_all {ls : List Key} {es : List (Int × Value)} (h : Paired (GoodK P w) ls es) : ElemsOf (mixKind P w) es := fun e he => by
  obtain ⟨k, _, h1, h2, h3⟩ := paired_right h e he
  exact ⟨⟨k, h1, h2⟩, h3⟩
/-- the table is stored anew, and grown where it is full -/
theorem setG_tail {gw : Bool → Sem Unit} (hgw : ∀ (b : Bool) (s1 : Shared) (Q1 : Unit → Shared → Prop), Q1 () s1 → wpAny (model P w) A (gw b) Q1 E s1)
    {ob : Obj} {en : Array (Int × Value)} {ep : Nat} {tb : SetTable} (at0 : s.heap.get? a = some ob) (ex : ob.ExactSet) (dt : ob.data = .set en ep tb)
    {en1 : Array (Int × Value)} {tb2 : SetTable} {ls1 ks1 : List Key} (g1 : Paired (GoodK P w) ls1 en1.toList) (p1 : ls1.Perm ks1) (n1 : ks1.Nodup)
    (b1 : en1.size < scanBound) (f2 : tb2.fits en1.size = true) (r2 : L2.Ris tb2.place.toList) (l2 : w.params.followText "set-order" = true ∨ tb2.led = true) {wd : Bool} {R : Option Bool → Shared → Prop}
    (k : ∀ h', Heap.SameBut a s.heap h' → SetG P w h' a ks1 → R (some true) { s with heap := h' }) :
    wpAny (model P w) A (do
      storeSet a en1 tb2
      if (!wd && tb2.tooFull) = true then do
        gw (relayAll tb2 en1 (SetTable.grown en1.size)).2.2
        storeSet a (relayAll tb2 en1 (SetTable.grown en1.size)).1 (relayAll tb2 en1 (SetTable.grown en1.size)).2.1
        pure (some true)
      else pure (some true)) R E s := by
  refine wpAny_bind (wpAny_storeSet_of at0 dt ?_ (fits_of_scanBound b1))
  have at1 := L2.store_at (es' := en1) (t' := tb2) at0 dt
  have sm1 := Heap.SameBut.update s.heap a (Obj.putSet en1 tb2)
  split
  · have fz3 := relayAll_fits tb2 en1 (SetTable.grown en1.size)
    have rz3 := relayAll_ris tb2 en1 (SetTable.grown en1.size)
    have lz3 := relayAll_led tb2 en1 (SetTable.grown en1.size)
    have pz3 := relayAll_perm tb2 en1 (SetTable.grown en1.size)
    generalize relayAll tb2 en1 (SetTable.grown en1.size) = Y at pz3 fz3 rz3 lz3 ⊢
    obtain ⟨en2, tb3, gv⟩ := Y
    dsimp only at pz3 fz3 rz3 lz3 ⊢
    have sz : en2.size = en1.size := by have := pz3.length_eq; rwa [Array.length_toList, Array.length_toList] at this
    have b2 : en2.size < scanBound := sz ▸ b1
    obtain ⟨ls2, a2, g2⟩ := paired_perm pz3 g1
    refine wpAny_bind (hgw _ _ _ (wpAny_bind (wpAny_storeSet_of at1 rfl ?_ (fits_of_scanBound b2))))
    have at2 := L2.store_at (es' := en2) (t' := tb3) at1 rfl
    exact wpAny_pure (k _ (sm1.trans (Heap.SameBut.update _ a _)) ⟨_, en2, _, tb3, ls2, at2, ex, rfl, g2, a2.trans p1, n1, b2, fz3, rz3, l2.imp (fun z => z) fun z => by rw [lz3]; exact z⟩)
  · exact wpAny_pure (k _ sm1 ⟨_, en1, _, tb2, ls1, at1, ex, rfl, g1, p1, n1, b1, f2, r2, l2⟩)
/-- a key is added -/
theorem setG_add {k : Key} {v : Value} {Q : Bool → Shared → Prop} (R : SetG P w s.heap a ks) (kv : (mixKind P w).is k v = true) (sc : v.scannable = true) (room : ks.length + 1 < scanBound)
    (q : ∀ h' ks', Heap.SameBut a s.heap h' → (k ∈ ks → ks' = ks) → (k ∉ ks → ks' = k :: ks) → SetG P w h' a ks' → ∀ b, Q b { s with heap := h' }) :
    wpAny (model P w) A (setAddHashed a v ((mixKind P w).hash k)) Q E s := by
  obtain ⟨ob, en, ep, tb, ls, at0, ex, dt, gd, pm, nd, bd, ft, rs, ld⟩ := R
  have el : ElemsOf (mixKind P w) en.toList := good_all gd
  have nn : en.size = ks.length := by rw [← Array.length_toList, ← paired_len gd, pm.length_eq]
  unfold setAddHashed setAddHashedIn
  refine wpAny_holding (wpAny_bind (wpAny_setState_of at0 dt ft ?_))
  dsimp only
  rw [byScan_of sc bd el]
  simp only [↓reduceIte]
  unfold setAddByScan
  refine wpAny_bind (wpAny_bind (wpAny_rule (wpAny_bind (wpAny_setScan_of kv at0 dt ft el ?_))))
  cases fi : List.findIdx? (fun e => (mixKind P w).is k e.2) en.toList with
  | some j =>
    dsimp only
    obtain ⟨jl, jk, _⟩ := List.findIdx?_eq_some_iff_getElem.mp fi
    obtain ⟨k', hk', g1, _⟩ := paired_right gd _ (List.getElem_mem jl)
    have e1 : k' = k := (mixKind P w).inj _ _ _ g1 jk
    have hk : k ∈ ks := pm.mem_iff.mp (e1 ▸ hk')
    exact wpAny_pure (wpAny_pure (q s.heap ks (Heap.SameBut.refl a s.heap) (fun _ => rfl) (fun z => absurd hk z) ⟨ob, en, ep, tb, ls, at0, ex, dt, gd, pm, nd, bd, ft, rs, ld⟩ _))
  | none =>
    dsimp only
    have hk : k ∉ ks := fun z => by
      obtain ⟨e, he, g1, _⟩ := paired_left gd k (pm.mem_iff.mpr z)
      have c := List.findIdx?_eq_none_iff.mp fi e he
      rw [g1] at c
      cases c
    have gives : ∀ (b : Bool) {s1 : Shared} {Q1 : Unit → Shared → Prop}, Q1 () s1 → wpAny (model P w) A (match b with | true => rule "set.scan.the-table-gave-way" | false => pure ()) Q1 E s1 := fun b s1 Q1 z => by
      cases b with
      | true => exact wpAny_rule z
      | false => exact wpAny_pure z
    have fz1 := layNew_fits tb en ((mixKind P w).hash k) v
    have rz1 := layNew_ris tb en ((mixKind P w).hash k) v rs
    have lz1 := layNew_led tb en ((mixKind P w).hash k) v
    have pz1 := layNew_perm tb en ((mixKind P w).hash k) v
    generalize layNew tb en ((mixKind P w).hash k) v = Y at pz1 fz1 rz1 lz1 ⊢
    obtain ⟨en1, tb1, wd, gv⟩ := Y
    dsimp only at pz1 fz1 rz1 lz1 ⊢
    rw [Array.toList_push] at pz1
    obtain ⟨ls1, a1, g1⟩ := paired_perm (pz1.trans (List.perm_append_singleton _ _)) (Paired.cons (show GoodK P w k ((mixKind P w).hash k, v) from ⟨kv, rfl, sc⟩) gd)
    have p1 : ls1.Perm (k :: ks) := a1.trans (pm.cons k)
    have n1 : (k :: ks).Nodup := List.nodup_cons.mpr ⟨hk, nd⟩
    have sz1 : en1.size < scanBound := by
      have e2 : en1.toList.length = ks.length + 1 := by rw [← paired_len g1, p1.length_eq, List.length_cons]
      rw [Array.length_toList] at e2
      omega
    have ld1 : w.params.followText "set-order" = true ∨ tb1.led = true := ld.imp (fun z => z) fun z => by rw [lz1]; exact z
    have fin : ∀ h', Heap.SameBut a s.heap h' → SetG P w h' a (k :: ks) → Q true { s with heap := h' } := fun h' sb r => q h' _ sb (fun z => absurd z hk) (fun _ => rfl) r true
    refine wpAny_bind (gives _ ?_)
    split
    · refine wpAny_bind ?_
      rw [hashByValue_scannable 8 sc]
      refine wpAny_pure (setG_tail (fun b s1 Q1 z => gives b z) at0 ex dt g1 p1 n1 sz1 ?_ ?_ ?_ ?_)
      · first | exact fz1 | (split <;> first | exact fz1 | exact SetTable.fits_plain_off fz1)
      · first | exact rz1 | (split <;> exact rz1)
      · first | exact ld1 | (split <;> exact ld1)
      · exact fun h' sb r => wpAny_pure (fin h' sb r)
    · refine wpAny_bind (wpAny_pure ?_)
      simp only [↓reduceIte]
      exact setG_tail (fun b s1 Q1 z => gives b z) at0 ex dt g1 p1 n1 sz1 fz1 rz1 ld1 fun h' sb r => wpAny_pure (fin h' sb r)
/-- the keys met so far, each once -/
def MetK (ks : List Key) (i : Nat) (ms : List Key) : Prop := ms.length ≤ i ∧ ∀ k, k ∈ ms ↔ k ∈ ks.take i
/-- what is walked is put into the set, thing by thing -/
theorem set_walk {I : Addr} {fp wr : List Addr} {G : Array GenState → Array GenState → Prop} {n : Nat} {Pv : Nat → Value → Prop} {St : Nat → Shared → Prop} {R : Result → Shared → Prop}
    (W : WalksS P w A.in1 I fp wr G n Pv St) (T : Addr) (off : T ∉ fp) (ks : List Key) (hn : n = ks.length) (room : ks.length + 1 < scanBound) (hv : ∀ i v, Pv i v → ∃ k, ks[i]? = some k ∧ (mixKind P w).is k v = true ∧ v.scannable = true) :
    ∀ (m i : Nat) (s : Shared), n - i = m → i ≤ n → St i s → (∃ ms, MetK ks i ms ∧ SetG P w s.heap T ms) →
      (∀ s' ms, Moved (T :: wr) G s s' → MetK ks n ms → SetG P w s'.heap T ms → R (.ok (.ret .none)) s') →
      codeAny (model P w) A (.builtin "set.update.loop" ⟨[.ref T, .ref I], []⟩) R s := by
  have toff : T ∉ wr := fun z => off (W.sub _ z)
  have more : ∀ b ∈ wr, b ∈ T :: wr := fun b z => List.mem_cons_of_mem _ z
  intro m
  induction m with
  | zero =>
    rintro i s em hi st ⟨ms, met, g⟩ fin
    obtain rfl : i = n := by omega
    refine codeAny_builtin PyProof.Rows.F.entry_set_update_loop ?_
    rw [Around.under_plainId PyProof.Rows.F.plain_set_update_loop _]
    show wpAny _ A.in1 (pyNext (.ref I) >>= _) _ _ s
    refine wpAny_bind (W.done s _ _ st fun s' mv => ?_)
    show wpAny _ A.in1 (ret Value.none) _ _ s'
    exact wpAny_pure (fin s' ms (mv.mono more) met (g.at fun o e => mv.heap T o toff e))
  | succ m ih =>
    rintro i s em hi st ⟨ms, met, g⟩ fin
    have lt : i < n := by omega
    refine codeAny_builtin PyProof.Rows.F.entry_set_update_loop ?_
    rw [Around.under_plainId PyProof.Rows.F.plain_set_update_loop _]
    show wpAny _ A.in1 (pyNext (.ref I) >>= _) _ _ s
    refine wpAny_bind (W.item i s _ _ lt st fun v s' pv st' mv => ?_)
    obtain ⟨k, ek, kv, sc⟩ := hv i v pv
    have g' : SetG P w s'.heap T ms := g.at fun o e => mv.heap T o toff e
    show wpAny _ A.in1 (holding [v] (setAdd T v) >>= _) _ _ s'
    refine wpAny_bind (wpAny_holding ?_)
    unfold setAdd
    refine wpAny_holding (wpAny_bind ((mixKind P w).pyHash kv ?_))
    refine setG_add (s := { s' with toks := s'.toks + 1 }) g' kv sc (by have := met.1; omega) fun h' ms' sb y1 y2 g2 b => ?_
    have met' : MetK ks (i + 1) ms' := by
      unfold MetK
      rw [List.take_add_one, ek]
      by_cases z : k ∈ ms
      · rw [y1 z]
        refine ⟨by have := met.1; omega, fun x => ?_⟩
        rw [List.mem_append, ← met.2 x]
        exact ⟨.inl, fun c => c.elim (fun c => c) fun c => by rw [List.mem_singleton.mp (show x ∈ [k] from c)]; exact z⟩
      · rw [y2 z]
        refine ⟨by have := met.1; rw [List.length_cons]; omega, fun x => ?_⟩
        rw [List.mem_append, ← met.2 x, List.mem_cons]
        exact ⟨fun c => c.elim (fun c => .inr (by rw [c]; exact List.mem_singleton.mpr rfl)) .inl, fun c => c.elim .inr fun c => .inl (List.mem_singleton.mp (show x ∈ [k] from c))⟩
    refine wpAny_pure ⟨plainId_quiet PyProof.Rows.F.plain_set_update_loop _, ih (i + 1) _ (by omega) lt (W.frame _ s' _ _ st' (Nat.le_succ _) fun b hb o e => ?_) ⟨ms', met', g2⟩ fun s2 ms2 mv2 met2 g3 => ?_⟩
    · rw [sb.2 b (fun z : b = T => off (z ▸ hb))]; exact e
    · refine fin s2 ms2 (Moved.trans W.gtrans ((mv.mono more).then_heap (Nat.le_succ _) fun b o hb e => ?_) mv2) met2 g3
      rw [sb.2 b (fun z : b = T => hb (by rw [z]; exact List.mem_cons_self))]; exact e
theorem setG_new {h : Heap} {a : Addr} (at0 : h.get? a = some { cls := .type "set", dict := none, data := .set #[] 0 (.fresh 0 0 (!w.params.followText "set-order")) }) : SetG P w h a [] :=
  ⟨_, #[], 0, _, [], at0, ⟨rfl, rfl, rfl⟩, rfl, .nil, .nil, List.nodup_nil, by decide, by rfl, List.Pairwise.nil, by
    show _ ∨ (!w.params.followText "set-order") = true
    cases w.params.followText "set-order" with
    | true => exact .inl rfl
    | false => exact .inr rfl⟩
set_option maxRecDepth 100000 in
set_option maxHeartbeats 3200000 in
theorem call_setL {l : Addr} {its : Array Value} (ks : List Key) {Q : Value → Shared → Prop} (hh : A.handled = none) (isl : s.heap.IsList l its) (len : its.size = ks.length) (room : ks.length + 1 < scanBound)
    (hv : ∀ (i : Nat) (v : Value), its[i]? = some v → ∃ k : Key, ks[i]? = some k ∧ (mixKind P w).is k v = true ∧ v.scannable = true)
    (q : ∀ (h' : Heap) (tk : Nat) (ms : List Key), SetG P w h' s.heap.objs.size ms → MetK ks ks.length ms → (∀ b o, s.heap.get? b = some o → h'.get? b = some o) → Q (.ref s.heap.objs.size) { s with heap := h', toks := tk }) :
    wpAny (model P w) A (call (.type "set") [.ref l]) Q E s := by
  obtain ⟨newO, eNew⟩ : ∃ ob : Obj, ob = { cls := .type "set", dict := none, data := .set #[] 0 (.fresh 0 0 (!w.params.followText "set-order")) } := ⟨_, rfl⟩
  obtain ⟨c, tl, hmro⟩ := PySem.F.called_set.mro
  have f1 := PySem.F.called_set.made
  have f2 := PySem.F.called_set.sub
  refine wpAny_call (codeAny_of_tree (show wpAny _ _ (callAny (.type "set") _) _ _ _ from ?_))
  refine wpAny_pure ⟨Code.quiet_builtin _ (by decide +kernel), codeAny_builtin PySem.F.entry_type_call ?_⟩
  rw [Around.under_plain (weight_type_call_type "set" [.ref l] []) rfl]
  have f3 := PySem.F.called_set.notType
  have f4 := PySem.F.called_set.canCreate
  have f5 := PySem.F.typeCall_set_1 (.ref l)
  repeat (any_goals (first | assumption | wp_step))

  refine codeAny_mono (code_set_led1 (.ref l) (E := E) (Q₁ := fun ob s1 => ob = .ref s.heap.objs.size ∧ s1 = { s with heap := s.heap.push newO }) ⟨rfl, by rw [eNew]⟩) fun r s1 hr => ?_
  cases r with
  | error e => exact hr
  | ok fl =>
    cases fl with
    | ret ob =>
      obtain ⟨rfl, rfl⟩ := hr
      have nf : newO.isFreed = false := by rw [eNew]; rfl
      have at0 : (s.heap.push newO).get? s.heap.objs.size = some newO := Heap.get?_push_size _ nf
      have ty0 : Shared.TypeIs { s with heap := s.heap.push newO } (.ref s.heap.objs.size) "set" := ⟨_, at0, by rw [eNew]⟩
      have f6 := PySem.F.called_set.init.lookup
      have f7 := PySem.F.called_set.init.bind (.ref s.heap.objs.size)
      repeat (any_goals (first | assumption | wp_step))

      refine codeAny_mono (codeAny_call_builtin (R := wants (fun r s2 => r = .none ∧ ∃ h' tk ms, s2 = { s with heap := h', toks := tk } ∧ SetG P w h' s.heap.objs.size ms ∧ MetK ks ks.length ms ∧ (∀ b o, s.heap.get? b = some o → h'.get? b = some o)) E) PySem.F.called_set.init.plain PySem.F.entry_set_init (check_set_init_1 ty0 ?_)) fun r2 s2 hr2 => ?_
      · obtain ⟨⟨ocl, odi, oda, osl⟩, atl, ecl, nl, eda⟩ := isl
        simp only at ecl eda
        subst ecl; subst eda
        have atl' : (s.heap.push newO).get? l = some { cls := .type "list", dict := odi, data := .seq its nl, slots := osl } := Heap.get?_push_of_some _ atl
        have f8 := PySem.F.sub_list_set
        have f9 := PySem.F.sub_list_frozenset
        have f10 : (Value.type "list" == Value.type "dict") = false := by decide
        have isl1 : (s.heap.push newO).IsList l its := ⟨_, atl', rfl, nl, rfl⟩
        subst eNew; unfold Builtin.«set.__init__» noKeywords Builtin.Frozenset.updateFrom
        generalize ePI : pyIter = PI
        wp_walk
        subst ePI

        refine wpAny_pyIter_list isl1 ?_; refine wpAny_bind (wpAny_runValue ?_)
        have ll : l < s.heap.objs.size := Heap.lt_size atl
        have hh3 : A.in1.in1.in1.handled = none := by simp [hh]
        have psz : ∀ ob : Obj, (s.heap.push ob).objs.size = s.heap.objs.size + 1 := fun ob => Heap.size_push ..
        have offs : ∀ n : Nat, n = s.heap.objs.size + 1 → s.heap.objs.size ∉ [n, l] := fun n hn => by
          simp only [List.mem_cons, List.not_mem_nil, or_false, not_or]
          exact ⟨fun z => Nat.ne_of_lt (Nat.lt_succ_self _) (z.trans hn), Nat.ne_of_gt ll⟩
        refine set_walk ((Walks.list hh3 _ l (by rw [psz]; exact Nat.ne_of_lt (Nat.lt_succ_of_lt ll)) its).toS) s.heap.objs.size (offs _ (psz _)) ks len room hv (its.size - 0) 0 _ (by omega) (Nat.zero_le _) ⟨⟨_, Heap.get?_push_size _ rfl, rfl, rfl⟩, (isl1.push _)⟩ ?start ?fin
        case start =>
          exact ⟨[], ⟨Nat.le_refl _, fun x => by simp⟩, setG_new (Heap.get?_push_of_some _ at0)⟩
        case fin =>
          intro s3 ms mv met g
          obtain ⟨h3, g3, d3, t3, o3⟩ := s3
          obtain rfl : g3 = s.gens := mv.gens
          obtain rfl : d3 = s.drawn := mv.drawn
          obtain rfl : o3 = s.os := mv.os
          refine wpAny_pure (show wpAny _ _ (ret Value.none) _ _ _ from wpAny_pure ⟨rfl, h3, t3, ms, rfl, g, len ▸ met, fun b o e => ?_⟩)
          have bl : b < s.heap.objs.size := Heap.lt_size e
          refine mv.heap b o ?_ (Heap.get?_push_of_some _ (Heap.get?_push_of_some _ e))
          simp only [List.mem_cons, List.mem_singleton, List.not_mem_nil, or_false, not_or]
          exact ⟨Nat.ne_of_lt bl, by rw [psz]; exact Nat.ne_of_lt (Nat.lt_succ_of_lt bl)⟩

      · cases r2 with
        | error e => exact hr2
        | ok fl2 =>
          cases fl2 with
          | ret r =>
            obtain ⟨rfl, h', tk, ms, rfl, g, met, kp⟩ := hr2
            repeat (any_goals (first | assumption | wp_step))
            exact q _ _ ms g met kp
          | _ => exact hr2.elim
    | _ => exact hr.elim
end
end DL

/-! len(set(l)), sorted(set(l)) of numbers and texts -/
namespace DL
open PySem PySem.Spec PyProof.Rows L2
section
open PySem.W PySem.Calls PySem.SeqAt
variable {prog : Program} {w : World} {A : Around} {s : Shared}
/-- sorted(x) of what can be collected -/
theorem sorted_genD {β : Type} {C : List β → Prop} {enc : β → PyData} {R : Value → β → Prop} {E : Value → Shared → Prop} {x : Value} {Q : Value → Shared → Prop}
    (hc : ∀ (E' : Value → Shared → Prop) (Q' : List Value → Shared → Prop), (∀ vs h1 tk dr bs, C bs → (∀ b o, s.heap.get? b = some o → h1.get? b = some o) → EachIs R vs bs → Q' vs { s with heap := h1, toks := tk, drawn := dr }) → wpAny (model prog w) A.in1 (collect x) Q' E' s)
    (hr : ∀ v b, R v b → ∃ as, Reads s.heap v (enc b) as) (hal : ∀ bs, C bs → AllAlike (bs.map enc))
    (hk : ∀ bs, C bs → Sortable (bs.map enc) ∨ ∀ d, d ∈ bs.map enc → ∃ xs, d = .tuple xs) (hL : ∀ bs, C bs → bs.length ≤ sizeLine) (hu : ∀ bs, C bs → ∀ b, b ∈ bs → A.units + 2 + (enc b).depth < cLine)
    (h : ∀ out d (h1 h2 : Heap) tk dr bs, C bs → (∀ b o, s.heap.get? b = some o → h1.get? b = some o) → (∀ b o, h1.get? b = some o → h2.get? b = some o) → h1.objs.size ≤ d → (∃ c, h2.get? d = some (seqObj "list" (List.toArray out) c)) → EachIs R out (bs.mergeSort (dataLe false enc)) → Q (.ref d) { s with heap := h2, toks := tk, drawn := dr }) :
    wpAny (model prog w) A (call (.builtin "sorted") [x]) Q E s := by
  refine Calls.call_function_entry kind_sorted plain_sorted entry_sorted (args_sorted1 _) ?_
  unfold Builtin.«sorted»
  refine wpAny_bind (m := checkCount "sorted" 1 1 _) (wpAny_pure ?_)
  refine wpAny_bind (hc _ _ fun vs h1 tk dr bs cb keep e => ?_)
  have hlv : vs.length = bs.length := e.length
  refine wpAny_bind (wpAny_newList ?_ (by rw [hlv]; exact hL bs cb))
  have hoL : (h1.push (seqObj "list" vs.toArray 0)).get? h1.objs.size = some (seqObj "list" vs.toArray 0) := Heap.get?_push_size _ rfl
  have old : ∀ b o, s.heap.get? b = some o → b ≠ h1.objs.size ∧ (h1.push (seqObj "list" vs.toArray 0)).get? b = some o := fun b o q => by
    have q1 := keep b o q
    exact ⟨Nat.ne_of_lt (Heap.lt_size q1), Heap.get?_push_of_some _ q1⟩
  show wpAny _ _ _ _ _ { s with heap := h1.push (seqObj "list" vs.toArray 0), toks := tk, drawn := dr }
  have er : EachIs (fun v b => ∃ as, Reads (sortingHeap (h1.push (seqObj "list" vs.toArray 0)) h1.objs.size vs) v (enc b) as) vs bs := e.mono fun v b q => by
    obtain ⟨as, r⟩ := hr v b q
    exact ⟨as, PyProof.Rows.Reads.keeps (fun b o z => sortingHeap_old (old b o z).1 (old b o z).2) r⟩
  have S : SortsAt prog w A.in1.in1 { s with heap := sortingHeap (h1.push (seqObj "list" vs.toArray 0)) h1.objs.size vs, toks := tk, drawn := dr } (dataKind (sortingHeap (h1.push (seqObj "list" vs.toArray 0)) h1.objs.size vs) (bs.map enc)) vs := by
    have e2 := each_map (R := fun v d => ∃ as, Reads (sortingHeap (h1.push (seqObj "list" vs.toArray 0)) h1.objs.size vs) v d as) enc er
    have hu2 : ∀ d, d ∈ bs.map enc → A.in1.in1.units + d.depth < cLine := bound_map (hu bs cb)
    rcases hk bs cb with hk | hk
    · exact SortsAt.data (s := { s with heap := sortingHeap (h1.push (seqObj "list" vs.toArray 0)) h1.objs.size vs, toks := tk, drawn := dr }) e2 (hal bs cb) hk hu2
    · exact sortsAt_tups (s := { s with heap := sortingHeap (h1.push (seqObj "list" vs.toArray 0)) h1.objs.size vs, toks := tk, drawn := dr }) e2 (hal bs cb) hk hu2
  refine wpAny_bind (wpAny_holding (wpAny_call_entry slot_list_sort ⟨_, hoL, rfl⟩ entry_list_sort (list_sort_vals (s := { s with heap := h1.push (seqObj "list" vs.toArray 0), toks := tk, drawn := dr }) hoL S (by rw [hlv]; exact hL bs cb) ⟨_, rfl, ?_⟩) (args_list_sort _)))
  refine wpAny_pure ⟨_, rfl, ?_⟩
  refine h _ h1.objs.size h1 _ tk dr bs cb keep (fun b o q => ?_) (Nat.le_refl _) (PyProof.Rows.sortedHeap_at (vs := vs) (out := (List.toArray _)) hoL) (sortVals_data false e er (hal bs cb))
  have q2 : (h1.push (seqObj "list" vs.toArray 0)).get? b = some o := Heap.get?_push_of_some _ q
  rw [PyProof.Rows.sortedHeap_old (Nat.ne_of_lt (Heap.lt_size q)) (Heap.lt_size q2)]
  exact q2
end
/-! ### keys in order -/
def tokK : Key → Int ⊕ List Nat
  | .inl i => .inl i
  | .inr x => .inr x.cps.toList
theorem tokK_inj : ∀ {a b : Key}, tokK a = tokK b → a = b
  | .inl i, .inl j, h => by injection h with h; rw [h]
  | .inr x, .inr y, h => by injection h with h; rw [PySem.W.str_of_cps h]
  | .inl _, .inr _, h => nomatch h
  | .inr _, .inl _, h => nomatch h
theorem keyD_lt (a b : Key) : D.lt (keyD a) (keyD b) = PyProof.Rows.lexLt itemOrd [tokK a] [tokK b] := by cases a <;> cases b <;> rfl
def leK (a b : Key) : Bool := D.le (keyD a) (keyD b)
theorem leK_total (a b : Key) : (leK a b || leK b a) = true := by
  unfold leK D.le
  rw [keyD_lt, keyD_lt]
  cases h : PyProof.Rows.lexLt itemOrd [tokK b] [tokK a] with
  | false => rfl
  | true =>
    cases k : PyProof.Rows.lexLt itemOrd [tokK a] [tokK b] with
    | false => rfl
    | true => have := PyProof.Rows.lex_trans _ _ _ h k; rw [PyProof.Rows.lex_irrefl] at this; cases this
theorem leK_trans (a b c : Key) (h : leK a b = true) (k : leK b c = true) : leK a c = true := by
  unfold leK D.le at *
  rw [keyD_lt] at *
  cases q : PyProof.Rows.lexLt itemOrd [tokK c] [tokK a] with
  | false => rfl
  | true =>
    rcases PyProof.Rows.lex_negTrans _ [tokK b] _ q with z | z
    · rw [z] at k; cases k
    · rw [z] at h; cases h
theorem leK_anti {a b : Key} (h : leK a b = true) (k : leK b a = true) : a = b := by
  unfold leK D.le at *
  rw [keyD_lt] at *
  have := PyProof.Rows.lex_total _ _ (by simpa using k) (by simpa using h)
  exact tokK_inj (by injection this)
def sortKy (ks : List Key) : List Key := ks.mergeSort leK
theorem sortKy_up (ks : List Key) : (sortKy ks).Pairwise (fun a b => leK a b = true) := List.pairwise_mergeSort leK_trans leK_total ks
theorem sortKy_perm (ks : List Key) : (sortKy ks).Perm ks := List.mergeSort_perm ks leK
theorem sortKy_ext {ks ls : List Key} (p : ks.Perm ls) : sortKy ks = sortKy ls :=
  List.Perm.eq_of_pairwise (le := fun a b => leK a b = true) (fun a b _ _ h k => leK_anti h k) (sortKy_up ks) (sortKy_up ls) (((sortKy_perm ks).trans p).trans (sortKy_perm ls).symm)
theorem sortD_keys (ks : List Key) : sortD (ks.map keyD) = (sortKy ks).map keyD := by
  unfold sortD sortKy
  rw [List.map_mergeSort]
  intro a _ b _
  rfl
theorem nubK_mem {k : Key} : ∀ {ks : List Key}, k ∈ nubK ks ↔ k ∈ ks
  | [] => Iff.rfl
  | x :: r => by
    unfold nubK
    have ih := nubK_mem (k := k) (ks := r)
    split
    · rename_i h
      rw [ih, List.mem_cons]
      exact ⟨.inr, fun z => z.elim (fun z => by rw [z]; exact nubK_mem.mp h) fun z => z⟩
    · rw [List.mem_cons, List.mem_cons, ih]
theorem nubK_nodup : ∀ ks : List Key, (nubK ks).Nodup
  | [] => List.nodup_nil
  | x :: r => by
    unfold nubK
    split
    · exact nubK_nodup r
    · rename_i h; exact List.nodup_cons.mpr ⟨h, nubK_nodup r⟩
theorem nubK_len : ∀ ks : List Key, (nubK ks).length ≤ ks.length
  | [] => Nat.le_refl _
  | x :: r => by
    unfold nubK
    have := nubK_len r
    split <;> simp <;> omega
theorem met_perm {ks ms : List Key} (h : MetK ks ks.length ms) (nd : ms.Nodup) : ms.Perm (nubK ks) := by
  classical
  refine (List.perm_ext_iff_of_nodup nd (nubK_nodup ks)).mpr fun k => ?_
  rw [h.2 k, List.take_length, nubK_mem]
/-- all of one kind -/
def KindK (ks : List Key) : Prop := (∀ k ∈ ks, ∃ i, k = .inl i) ∨ ∀ k ∈ ks, ∃ x, k = .inr x ∧ PyData.strOk x = true
theorem sortOk_keys {ks : List Key} (hl : ks.length ≤ sizeLine) (hk : KindK ks) : SortOk (ks.map keyD) := by
  refine ⟨by rw [List.length_map]; exact hl, fun d hd => ?_, fun d hd d' hd' => ?_, .inr fun d hd => ?_⟩
  · obtain ⟨k, h, rfl⟩ := List.mem_map.mp hd
    rcases hk with hk | hk
    · obtain ⟨i, rfl⟩ := hk k h; rfl
    · obtain ⟨x, rfl, z⟩ := hk k h; exact z
  · obtain ⟨k, h, rfl⟩ := List.mem_map.mp hd
    obtain ⟨k', h', rfl⟩ := List.mem_map.mp hd'
    rcases hk with hk | hk
    · obtain ⟨i, rfl⟩ := hk k h; obtain ⟨j, rfl⟩ := hk k' h'; rfl
    · obtain ⟨x, rfl, z⟩ := hk k h; obtain ⟨y, rfl, z'⟩ := hk k' h'; rfl
  · obtain ⟨k, h, rfl⟩ := List.mem_map.mp hd
    cases k <;> exact ⟨by simp [keyD], by intros; simp [keyD], by intros; simp [keyD]⟩
/-! ### the rules -/
theorem rel_kv {k : Key} {v : Value} (h : keyIs k v = true) : RelV (kV k) v := by
  rcases keyIs_shape h with ⟨i, t, rfl, rfl⟩ | ⟨x, t, rfl, rfl⟩
  · exact ⟨t, rfl⟩
  · exact ⟨t, rfl⟩
def D.key : D → Option Key
  | .int i => some (.inl i)
  | .str x => some (.inr x)
  | _ => none
def D.keys : List D → Option (List Key)
  | [] => some []
  | d :: r => match d.key, D.keys r with
    | some k, some ks => some (k :: ks)
    | _, _ => none
theorem keys_rep {K : PySem.W.Frag} {G : Hp} : ∀ {ds : List D} {ks : List Key} {vs : List V}, D.keys ds = some ks → RepL K G ds vs → vs = ks.map kV
  | [], ks, vs, h, r => by cases h; exact r
  | d :: ds, ks, vs, h, r => by
    obtain ⟨v, r', rfl, a, b⟩ := r
    unfold D.keys at h
    cases hd : d.key with
    | none => rw [hd] at h; cases h
    | some k =>
      cases hs : D.keys ds with
      | none => rw [hd, hs] at h; cases h
      | some ls =>
        rw [hd, hs] at h
        cases h
        rw [keys_rep hs b]
        cases d <;> cases hd <;> (rw [show v = _ from a]; rfl)
theorem vals_at {ks : List Key} : ∀ {l : List Key} {us : List Value}, Vals (l.map kV) us → ∀ (i : Nat) (v : Value), us[i]? = some v → ∃ k : Key, l[i]? = some k ∧ RelV (kV k) v
  | [], _, .nil, i, v, h => by simp at h
  | k :: l, _, .cons r t, 0, v, h => by cases h; exact ⟨k, rfl, r⟩
  | k :: l, _, .cons r t, i + 1, v, h => by
    obtain ⟨k', h1, h2⟩ := vals_at (ks := ks) t i v (by simpa using h)
    exact ⟨k', by simpa using h1, h2⟩
def mostK : Nat := 4000
section
variable {X : Cx} {W : WX} {A : Nat → Prop} {a : Expr} {p p2 q pos : Pos}
/-- a set made of a list of keys, and what is done with it -/
def tSetK (K : PySem.W.Frag) (ta : TE) (g : List Key → VK → Hp → Prop) : TE := fun σ H Q => ta σ H fun x H1 => ∃ (l : Addr) (ks : List Key), x = V.ref l ∧ SqL K H1 l (ks.map kV) ∧ ks.length ≤ mostK ∧ g ks Q H1
theorem pe_overSet {fn : Str} {f : Value} {id : String} {ta : TE} {g : List Key → VK → Hp → Prop} (hc : X.calm = true) (hg : Gl X fn) (hm : X.mg fn = none) (hb : bootBuiltins fn = some (.builtin id)) (hg2 : Gl X "set") (hm2 : X.mg "set" = none) (hn : fn ≠ "__name__") (hdb : (fn == ("__debug__" : Str)) = false)
    (run : ∀ (pins : List (Addr × Obj)) (s : Shared) (σ : L2.St) (H : Hp) (T : Addr) (ks ms : List Key) (Q : VK), Inv X pins σ H s → SetG X.prog X.w s.heap T ms → ms.Perm (nubK ks) → ks.length ≤ mostK → g ks Q H → wpAny (model X.prog X.w) X.A (call (.builtin id) [.ref T]) (EP X pins σ Q) X.xe s)
    (ha : PE X a ta) (na : starEach [a] X.env = (false, eval a X.env) :: starEach [] X.env := by rfl) : PE X (.Call (.Name fn p) [.Call (.Name "set" p2) [a] [] q] [] pos) (tSetK X.K ta g) := by
  refine ⟨fun pins s σ H Q I h => ?_⟩
  refine Call_ (ld_blt I hg hm hb ?_ hn hdb)
  refine PyProof.Rows.callWith_builtin1 (PyProof.Rows.args_cons (Call_ (ld_blt I hg2 hm2 boot_set ?_)) rfl) rfl rfl
  refine PyProof.Rows.callWith_type1 (PyProof.Rows.args_cons (thn (ha.run pins s σ H _ I h) fun v s1 ⟨x, H1, I1, r1, q1⟩ => PyProof.Rows.args_nil ?_) na) na rfl
  obtain ⟨l, ks, rfl, hq, h1, q1⟩ := q1
  cases r1
  obtain ⟨its, r, pl, hz⟩ := I1.list hq
  have hl : its.toArray.size = ks.length := by rw [List.size_toArray, ← r.length, List.length_map]
  refine call_setL ks (I1.ok.hd hc) pl.isList hl (by unfold mostK at h1; unfold scanBound; omega) (fun i v hv => ?_) fun h' tk ms hS met hk => PyProof.Rows.args_nil ?_
  · obtain ⟨k, e1, e2⟩ := vals_at (ks := ks) r i v (by simpa using hv)
    exact ⟨k, e1, kV_is e2, key_scan e2⟩
  · have nd : ms.Nodup := by obtain ⟨_, _, _, _, _, _, _, _, _, _, n, _⟩ := hS; exact n
    exact run pins _ σ H1 _ ks ms Q (I1.kept (t' := tk) fun b o e => hk b o e) hS (met_perm met nd) h1 q1
theorem pe_lenSetK {ta : TE} (hc : X.calm = true) (hg : Gl X "len") (hm : X.mg "len" = none) (hg2 : Gl X "set") (hm2 : X.mg "set" = none) (ha : PE X a ta) (na : starEach [a] X.env = (false, eval a X.env) :: starEach [] X.env := by rfl) :
    PE X (.Call (.Name "len" p) [.Call (.Name "set" p2) [a] [] q] [] pos) (tSetK X.K ta fun ks Q H => Q (.int ((nubK ks).length : Nat)) H) :=
  pe_overSet (f := .none) hc hg hm boot_len hg2 hm2 (by decide) (by decide) (fun pins s σ H T ks ms Q I hS pm hl q => by
    obtain ⟨o, es, ep, t, ls, ho, hex, hd, hp, lp, nd, hb, hf, _⟩ := hS
    have e1 : es.size = (nubK ks).length := by rw [← Array.length_toList, ← paired_len hp, lp.length_eq, pm.length_eq]
    refine call_len_set ho hex hd hf (by have := nubK_len ks; unfold mostK at hl; omega) ⟨.int ((nubK ks).length : Nat), H, I.tok _, ⟨_, by rw [e1]⟩, q⟩) ha na
theorem pe_sortSetK {ta : TE} (hc : X.calm = true) (hu : X.A.units + 64 < cLine) (hg : Gl X "sorted") (hm : X.mg "sorted" = none) (hg2 : Gl X "set") (hm2 : X.mg "set" = none) (ha : PE X a ta) (na : starEach [a] X.env = (false, eval a X.env) :: starEach [] X.env := by rfl) :
    PE X (.Call (.Name "sorted" p) [.Call (.Name "set" p2) [a] [] q] [] pos) (tSetK X.K ta fun ks Q H => KindK ks ∧ ∀ p, H p = none → Q (.ref p) (upd H p (.lst ((sortKy (nubK ks)).map kV)))) :=
  pe_overSet (f := .none) hc hg hm boot_sorted hg2 hm2 (by decide) (by decide) (fun pins s σ H T ks ms Q I hS pm hl ⟨kd, q⟩ => by
    obtain ⟨o, es, ep, t, ls, ho, hex, hd, hp, lp, nd, hb, hf, hr, hled⟩ := hS
    have kdm : ∀ l : List Key, l.Perm (nubK ks) → KindK l ∧ l.length ≤ sizeLine := fun l pl => by
      have mem : ∀ k ∈ l, k ∈ ks := fun k h => nubK_mem.mp (pl.mem_iff.mp h)
      refine ⟨kd.imp (fun z k h => z k (mem k h)) fun z k h => z k (mem k h), ?_⟩
      have := nubK_len ks
      rw [pl.length_eq, PySem.sizeLine_eq]
      unfold mostK at hl
      omega
    have ok : ∀ l : List Key, l.Perm (nubK ks) → SortOk (l.map keyD) := fun l pl => sortOk_keys (kdm l pl).2 (kdm l pl).1
    have emp : ∀ l : List Key, (l.map fun k => (keyD k).py) = (l.map keyD).map D.py := fun l => by rw [List.map_map]; rfl
    refine sorted_genD (C := fun l => l.Perm (nubK ks)) (R := fun v k => RelV (kV k) v) (enc := fun k => (keyD k).py) (fun E' Q' hq => ?_) (fun v k h => ?_) (fun l pl => ?_) (fun l pl => ?_) (fun l pl => (kdm l pl).2) (fun l pl k hk => ?_) fun out d h1 h2 tk dr l pl keep keep2 hd hat e => ?_
    · refine collect_set (A := X.A.in1) (I.ok.hd hc) ⟨o, ho, hex.1, hd⟩ hf hb hr hled fun s' out kp hz hg ho' pm' => ?_
      obtain ⟨l1, p1, g1⟩ := paired_perm pm' (l := ls) (F := fun k v => (mixKind X.prog X.w).is k v = true) (by
        clear kdm ok emp
        have : ∀ {l : List Key} {e : List (Int × Value)}, Paired (GoodK X.prog X.w) l e → Paired (fun k v => (mixKind X.prog X.w).is k v = true) l (e.map (·.2)) := by
          intro l e h
          induction h with
          | nil => exact .nil
          | cons a t ih => exact .cons a.1 ih
        exact this hp)
      obtain ⟨h1, g1', d1, t1, o1⟩ := s'
      obtain rfl : g1' = s.gens := hg
      obtain rfl : o1 = s.os := ho'
      refine hq out h1 t1 d1 l1 (p1.trans (lp.trans pm)) kp ?_
      have each : ∀ {l : List Key} {vs : List Value}, Paired (fun k v => (mixKind X.prog X.w).is k v = true) l vs → PySem.W.EachIs (fun v k => RelV (kV k) v) vs l := by
        intro l vs h
        induction h with
        | nil => exact .nil
        | cons a t ih => exact .cons (rel_kv a) ih
      exact each g1
    · cases k with
      | inl i => exact Dp.reads I (.int i) (.int i) v (.int i) h
      | inr x => exact Dp.reads I (.str x) (.str x) v (.str x) h
    · rw [emp]; exact (ok l pl).alike
    · rw [emp]; exact (ok l pl).kind
    · have : ((keyD k).py).depth ≤ 1 := by cases k <;> simp [keyD, D.py, PyData.depth]
      omega
    · have rs : ∃ ys, Vals ys out ∧ ys = (sortKy (nubK ks)).map kV := by
        have ev : ∀ {vs : List Value} {l : List Key}, PySem.W.EachIs (fun v k => RelV (kV k) v) vs l → Vals (l.map kV) vs := by
          intro vs l h
          induction h with
          | nil => exact .nil
          | cons a t ih => exact .cons a ih
        refine ⟨_, ev e, ?_⟩
        congr 1
        have : l.mergeSort (PySem.W.dataLe false fun k => (keyD k).py) = sortKy l := by
          unfold sortKy
          congr 1
        rw [this]
        exact sortKy_ext pl
      obtain ⟨ys, r1, r2⟩ := rs
      subst r2
      obtain ⟨c, hat⟩ := hat
      have hlen : ((sortKy (nubK ks)).map kV).length ≤ sizeLine := by rw [List.length_map, (sortKy_perm _).length_eq]; exact (kdm _ (.refl _)).2
      have eg : ∀ b o, s.heap.get? b = some o → h2.get? b = some o := fun b o e => keep2 b o (keep b o e)
      have J := I.call (h' := h1) (g' := s.gens) (d' := dr) (t' := tk) (ch := []) (Un.kept keep) (I.hok.kept keep) I.bare (fun _ z => nomatch z)
      exact ⟨.ref d, upd H d (.lst ((sortKy (nubK ks)).map kV)), J.laid (t' := tk) keep2 hd ⟨hlen, out, c, r1, hat⟩, rfl, q d (J.hok.fresh hd)⟩) ha na
end
end DL

/-! len(set(l)), sorted(set(l)), max(l, default=c) over data -/
namespace DL
open PySem PySem.Spec PyProof.Rows L2
section
variable {X : Cx} {W : WX} {A : Nat → Prop} {a : Expr} {p p2 q pos : Pos}
noncomputable def dLenSet : D → Res D
  | .lst xs => match D.keys xs with
    | some ks => if ks.length ≤ mostK then .ok (.int ((nubK ks).length : Nat)) else .bad
    | none => .bad
  | _ => .bad
theorem keys_of_rep {K : PySem.W.Frag} {H : Hp} {a : Addr} {vs : List V} {ks : List Key} (s : SqL K H a vs) (e : vs = ks.map kV) : SqL K H a (ks.map kV) := e ▸ s
theorem de_lenSet {f : DL.Env → Res D} (hc : X.calm = true) (hg : Gl X "len") (hm : X.mg "len" = none) (hg2 : Gl X "set") (hm2 : X.mg "set" = none) (ha : DR X W A a f) (na : starEach [a] X.env = (false, eval a X.env) :: starEach [] X.env := by rfl) :
    DE X W A (.Call (.Name "len" p) [.Call (.Name "set" p2) [a] [] q] [] pos) (e1 dLenSet f) :=
  (pe_lenSetK hc hg hm hg2 hm2 ha na).imp fun σ H Q ⟨e, G, E, h⟩ => ⟨e, G, E, h.split.imp fun d H1 G1 x1 q1 v rv => by
    cases d with
    | lst xs =>
      obtain ⟨b, vs, rfl, s, r⟩ := rv
      dsimp only [dLenSet] at q1
      cases hk : D.keys xs with
      | none => rw [hk] at q1; exact q1.elim
      | some ks =>
        rw [hk] at q1
        dsimp only at q1
        by_cases hl : ks.length ≤ mostK
        · rw [if_pos hl] at q1
          exact ⟨b, ks, rfl, keys_of_rep s (keys_rep hk r), hl, PostG.val (d := .int ((nubK ks).length : Nat)) q1 x1.gh rfl⟩
        · rw [if_neg hl] at q1; exact q1.elim
    | _ => exact (show False from q1).elim⟩
open Classical in
noncomputable def dSortSet : D → Res D
  | .lst xs => match D.keys xs with
    | some ks => if ks.length ≤ mostK ∧ KindK ks then .ok (.lst ((sortKy (nubK ks)).map keyD)) else .bad
    | none => .bad
  | _ => .bad
theorem repL_keys {K : PySem.W.Frag} {G : Hp} : ∀ ks : List Key, RepL K G (ks.map keyD) (ks.map kV)
  | [] => rfl
  | .inl i :: ks => ⟨_, _, rfl, rfl, repL_keys ks⟩
  | .inr x :: ks => ⟨_, _, rfl, rfl, repL_keys ks⟩
theorem df_sortSet {f : DL.Env → Res D} (hc : X.calm = true) (hu : X.A.units + 64 < cLine) (hg : Gl X "sorted") (hm : X.mg "sorted" = none) (hg2 : Gl X "set") (hm2 : X.mg "set" = none) (ha : DR X W A a f) (na : starEach [a] X.env = (false, eval a X.env) :: starEach [] X.env := by rfl) :
    DF X W A (.Call (.Name "sorted" p) [.Call (.Name "set" p2) [a] [] q] [] pos) (e1 dSortSet f) :=
  (pe_sortSetK hc hu hg hm hg2 hm2 ha na).imp fun σ H Q ⟨e, G, E, h⟩ => ⟨e, G, E, h.split.imp fun d H1 G1 x1 q1 v rv => by
    cases d with
    | lst xs =>
      obtain ⟨b, vs, rfl, s, r⟩ := rv
      dsimp only [dSortSet] at q1
      cases hk : D.keys xs with
      | none => rw [hk] at q1; exact q1.elim
      | some ks =>
        rw [hk] at q1
        dsimp only at q1
        by_cases hl : ks.length ≤ mostK ∧ KindK ks
        · rw [if_pos hl] at q1
          exact ⟨b, ks, rfl, keys_of_rep s (keys_rep hk r), hl.1, hl.2, fun l hl => q1 (upd H1 l (.lst _)) G1 ⟨Sub.upd hl, Sub.refl _, x1.gh.trans (Sub.upd hl), fun b z => .inl z⟩ l (x1.hh.free hl) (x1.gh.free hl) ⟨_, upd_same, repL_keys _⟩⟩
        · rw [if_neg hl] at q1; exact q1.elim
    | _ => exact (show False from q1).elim⟩
/-! max(l, default=c) -/
theorem alike_ints (ns : List Int) : PySem.W.AlikeAll (ns.map PyData.int) := by
  refine ⟨fun d hd e he => ?_, fun d hd => ?_⟩
  · obtain ⟨i, _, rfl⟩ := List.mem_map.mp hd
    obtain ⟨j, _, rfl⟩ := List.mem_map.mp he
    rfl
  · obtain ⟨i, _, rfl⟩ := List.mem_map.mp hd
    simp
theorem depth_ints : ∀ ns : List Int, PyData.depthAll (ns.map PyData.int) ≤ 1
  | [] => by simp [PyData.depthAll]
  | n :: ns => by have := depth_ints ns; simp [PyData.depthAll, PyData.depth]; omega
theorem dps_ints {K : PySem.W.Frag} {H : Hp} : ∀ ns : List Int, DpAll K H (ns.map V.int) (ns.map PyData.int)
  | [] => .nil
  | n :: ns => .cons (.int n) (dps_ints ns)
def maxDef (c : Int) : List Int → Int
  | [] => c
  | n :: r => r.foldl max n
theorem maxDef_ge (c : Int) : ∀ {ns : List Int} {x : Int}, x ∈ ns → x ≤ maxDef c ns
  | n :: r, x, h => by
    have gen : ∀ (r : List Int) (n x : Int), (x = n ∨ x ∈ r) → x ≤ r.foldl max n := by
      intro r
      induction r with
      | nil => intro n x h; rcases h with rfl | h; exact Int.le_refl _; cases h
      | cons m r ih =>
        intro n x h
        rw [List.foldl_cons]
        have h0 := ih (max n m) (max n m) (.inl rfl)
        rcases h with rfl | h
        · omega
        · rcases List.mem_cons.mp h with rfl | h
          · omega
          · exact ih _ _ (.inr h)
    exact gen r n x (List.mem_cons.mp h)
theorem maxDef_mem (c : Int) : ∀ {ns : List Int}, ns ≠ [] → maxDef c ns ∈ ns
  | n :: r, _ => by
    have gen : ∀ (r : List Int) (n : Int), r.foldl max n ∈ n :: r := by
      intro r
      induction r with
      | nil => intro n; exact List.mem_cons_self
      | cons m r ih =>
        intro n
        rw [List.foldl_cons]
        rcases List.mem_cons.mp (ih (max n m)) with h | h
        · rw [h]
          by_cases q : n ≤ m
          · rw [Int.max_eq_right q]; exact List.mem_cons_of_mem _ List.mem_cons_self
          · rw [Int.max_eq_left (by omega)]; exact List.mem_cons_self
        · exact List.mem_cons_of_mem _ (List.mem_cons_of_mem _ h)
    exact gen r n
def rMaxDef (K : PySem.W.Frag) : List V → List V → Hp → VK → Prop := fun vs zs H Q => ∃ (a : Addr) (ns : List Int) (c : Int), vs = [V.ref a] ∧ zs = [V.int c] ∧ SqL K H a (ns.map V.int) ∧ Q (.int (maxDef c ns)) H
theorem cr_maxDef (hc : X.calm = true) (hu : X.A.units + 64 < cLine) : CallRK X (.builtin "max") [Str.ofString "default"] (rMaxDef X.K) := by
  intro pins s σ H vs zs us ws Q I r rz h
  obtain ⟨l, ns, c, rfl, rfl, hs, q⟩ := h
  obtain rfl := Vals.ref1 r
  obtain ⟨w1, rfl, tk, rfl⟩ := vals1 rz
  obtain ⟨its, rv, hl, hz⟩ := I.list hs
  obtain ⟨as, hr⟩ := Dp.readsAll I (ns.map PyData.int) _ its (dps_ints ns) rv
  refine PySem.W.max_list_default (I.ok.hd hc) hl.isList (by simpa using hr) (alike_ints ns) (by have := depth_ints ns; omega) (fun e h' tk2 kp => ?_) (fun y ys i v h' tk2 bs e hv hrd kp => ?_)
  · have e' : ns = [] := by simpa using e
    subst e'
    exact ⟨.int c, H, I.kept (t' := tk2) kp, ⟨tk, rfl⟩, q⟩
  · cases ns with
    | nil => cases e
    | cons n r =>
      rw [List.map_cons] at e
      cases e
      rw [PySem.W.maxD_ints] at hrd
      cases hrd
      exact ⟨.int (maxDef c (n :: r)), H, I.kept (t' := tk2) kp, ⟨_, rfl⟩, q⟩
/-- max of a list of numbers, with a written number where there is none -/
def dMaxDef (c : Int) : D → Res D
  | .lst xs => match D.ints xs with
    | some ns => .ok (.int (maxDef c ns))
    | none => .bad
  | _ => .bad
theorem de_maxDef {f : DL.Env → Res D} {c : Int} {ck : Nat} {kp pc pos : Pos} (hc : X.calm = true) (hu : X.A.units + 64 < cLine) (hg : Gl X "max") (hm : X.mg "max" = none) (ha : DR X W A a f)
    (na : starEach [a] X.env = (false, eval a X.env) :: starEach [] X.env := by rfl)
    (he : backTo pos (starEach [a] X.env) = (false, eval a X.env) :: backTo pos (starEach [] X.env) := by rfl) (hpl : (backTo pos (starEach [a] X.env)).any (·.1) = false := by rfl)
    (hall : (backToKw pos (keywordEach [⟨some "default", .Constant (.int c) ck pc, kp⟩] X.env)).all (·.1.isSome) = true := by rfl) (hnone : (backToKw pos (keywordEach [⟨some "default", .Constant (.int c) ck pc, kp⟩] X.env)).any (·.1.isNone) = false := by rfl) (hks : (backToKw pos (keywordEach [⟨some "default", .Constant (.int c) ck pc, kp⟩] X.env)).filterMap (·.1) = [Str.ofString "default"] := by rfl) :
    DE X W A (.Call (.Name "max" p) [a] [⟨some "default", .Constant (.int c) ck pc, kp⟩] pos) (e1 (dMaxDef c) f) := by
  refine (pe_callBK (cr_maxDef hc hu) hg hm boot_max (pa_cons ha pa_nil na) (pk_cons pe_int pk_nil) (by decide) (by decide) he hpl hall hnone hks).imp fun σ H Q ⟨e, G, E, h⟩ => ?_
  refine ⟨e, G, E, h.split.imp fun d H1 G1 x1 q1 v rv => ?_⟩
  cases d with
  | lst xs =>
    obtain ⟨b, vs, rfl, s, r⟩ := rv
    dsimp only [dMaxDef] at q1
    cases hk : D.ints xs with
    | none => rw [hk] at q1; exact q1.elim
    | some ns =>
      rw [hk] at q1
      have ev := ints_rep hk r
      subst ev
      exact ⟨b, ns, c, rfl, rfl, s, PostG.val (d := .int (maxDef c ns)) q1 x1.gh rfl⟩
  | _ => exact (show False from q1).elim
end
end DL

/-! a <= b <= c <= d; l.count(n) -/
namespace DL
open PySem PySem.Spec PyProof.Rows L2
section
variable {X : Cx} {W : WX} {A : Nat → Prop} {a b c d : Expr} {pos : Pos}
/-! l.count(n) of whole numbers -/
def dCountI : D → List D → Res D := fun l ks => match l, ks with
  | .lst xs, [.int k] => match D.ints xs with
    | some ns => .ok (.int (ns.count k : Nat))
    | none => .bad
  | _, _ => .bad
theorem meth_countI : MethD X W "list" "list.count" dCountI := by
  refine ⟨_, mt_lcount, fun σ H G x vs dx ds Q sg ty rx rvs p => ?_⟩
  cases dx with
  | lst xs =>
    cases ds with
    | nil => exact p.elim
    | cons d r =>
      cases r with
      | cons _ _ => cases d <;> exact p.elim
      | nil =>
        cases d with
        | int k =>
          obtain ⟨q, ws, rfl, s, rr⟩ := rx
          obtain ⟨v, r', rfl, hv, hr⟩ := rvs
          cases (show r' = [] from hr)
          cases (show v = .int k from hv)
          dsimp only [dCountI] at p
          cases hk : D.ints xs with
          | none => rw [hk] at p; exact p.elim
          | some ns =>
            rw [hk] at p
            have ev := ints_rep hk rr
            subst ev
            exact ⟨q, ns, k, rfl, rfl, s, PostG.val (d := .int (ns.count k : Nat)) p sg rfl⟩
        | _ => exact p.elim
  | _ => exact p.elim
end
end DL

/-! a tuple times a number, the factor one, too -/
namespace L2
open PySem PySem.Spec PyProof.Rows
theorem once_ops (l : Addr) (its : Array Value) (m : Nat) (q : Option Addr) (sl : Array (Option Value)) (u : Tok) :
    Meets (Builtin.«tuple.__mul__» ⟨[.ref l, .int 1 u], []⟩) (fun _ R s => s.heap.get? l = some { cls := .type "tuple", dict := q, data := .seq its m, slots := sl } ∧ R (.ok (.ret (Value.ref l))) s) :=
  .of_wp fun prog w A R s h => by
    obtain ⟨hp, g, d, tk, os⟩ := s
    obtain ⟨k1, k2⟩ := h
    have fx := AutoSeq1.idx_int
    wp_walk using wpAny_loadPart' k1
    repeat (first
      | (refine wpAny_ite_false (decide_eq_false (by decide)) ?_; wp_walk using wpAny_loadPart' k1)
      | (refine wpAny_ite_true (decide_eq_true (by simp)) ?_; wp_walk using wpAny_loadPart' k1))
    all_goals exact ⟨_, rfl, k2⟩
def rOnceT (K : PySem.W.Frag) : R2 := fun x y H Q => ∃ l xs, x = .ref l ∧ y = .int 1 ∧ SqT K H l xs ∧ Q (.ref l) H
variable {X : Cx}
theorem op_onceT : OpR X (binaryOp .Mult) (rOnceT X.K) := by
  intro pins s σ H x y v u Q I a b h
  obtain ⟨l, xs, rfl, rfl, c, e⟩ := h
  cases a
  obtain ⟨t, rfl⟩ := b
  obtain ⟨its, r, ⟨⟨c1, d1, d2, sl⟩, ho, c2, m, c3⟩, _⟩ := I.tuple c
  simp only at c2 c3
  subst c2 c3
  exact wpAny_binaryOp_repeat_ref (T := "tuple") (U := "int") (by decide) ⟨_, ho, rfl⟩ (fun z => typeIs_int z 1 t) noFill_tuple_mul F.fills_int_mul F.slot_int_rmul repeat_tuple F.slot_int_index.lookup
    (call_meets F.slot_int_rmul (typeIs_int s 1 t) F.entry_int_rmul (F.args_int_rmul_2 _ _) (int_rmul_tuple 1 t l its.toArray m d1 sl)
      ⟨ho, rfl, ⟨_, ho, rfl⟩, call_meets F.slot_tuple_mul ⟨_, ho, rfl⟩ F.entry_tuple_mul (F.args_tuple_mul_2 _ _) (once_ops l its.toArray m d1 sl t) ⟨ho, .ref l, H, I, rfl, e⟩⟩)
end L2
namespace DL
open PySem PySem.Spec PyProof.Rows L2
section
variable {X : Cx} {W : WX}
def dRepT : D → D → Res D
  | .tup xs, .int k => if k = 1 then .ok (.tup xs) else if 2 ≤ k ∧ k ≤ 1000 ∧ xs ≠ [] ∧ xs.length ≤ 1000 then .ok (.tup (List.replicate k.toNat xs).flatten) else .bad
  | _, _ => .bad
theorem od_repT : OpD X W (binaryOp .Mult) dRepT := by
  refine ⟨_, OpR.or op_onceT op_repT, fun σ H G x y dx dy Q sg rx ry p => ?_⟩
  cases dx with
  | tup i =>
    cases dy with
    | int j =>
      have ey : y = .int j := ry
      obtain ⟨a, vs, e1, s1, r1⟩ := (show Rep X.K G (.tup i) x from rx)
      dsimp only [dRepT] at p
      by_cases h1 : j = 1
      · rw [if_pos h1] at p
        subst h1
        exact .inl ⟨a, vs, e1, ey, .of (sg a _ s1), p.here sg _ ⟨a, vs, rfl, s1, r1⟩⟩
      · rw [if_neg h1] at p
        by_cases hc : 2 ≤ j ∧ j ≤ 1000 ∧ i ≠ [] ∧ i.length ≤ 1000
        · rw [if_pos hc] at p
          refine .inr ⟨a, j, vs, e1, ey, .of (sg a _ s1), fun z => hc.2.2.1 ?_, hc.1, hc.2.1, by rw [r1.length]; exact hc.2.2.2, fun q hq => ?_⟩
          · have := r1.length
            rw [z] at this
            exact List.eq_nil_of_length_eq_zero this.symm
          · exact p _ _ (Ext.laid sg hq) _ ⟨q, _, rfl, upd_same, (repl_flat r1 _).mono (Sub.upd (sg.free hq))⟩
        · rw [if_neg hc] at p; exact p.elim
    | _ => exact (show False from p).elim
  | _ => exact (show False from p).elim
end
end DL

/-! a def that is handed a list of the caller's own as its first value and gives back one of its own -/
namespace DL
open PySem PySem.Spec PyProof.Rows L2
/-- such a def's promise -/
def spO (K : PySem.W.Frag) (mg : Str → Option Value) (n : Nat) (F : List D → Res D) : Sp := fun vs H Q E => vs.length = n ∧ ∃ a vr d dr G Hm, vs = .ref a :: vr ∧ Sub G Hm ∧ Sub Hm H ∧ Hm a = none ∧ OwnC K H G d a ∧ RepL K G dr vr ∧
  PostG K mg E Hm G (F (d :: dr)) fun r H' G' => ∀ b, Hm b = none → G' b = none → OwnC K H' G' r b → Q (.ref b) H'
structure CallOkO (P : Program) (w : World) (K : PySem.W.Frag) (mg : Str → Option Value) (base : Heap) (k : Nat) (x : Str) (ps : List Str) (F : List D → Res D) : Prop where
  ok : ∃ f fd, mg x = some (.ref f) ∧ PySem.W.keepIn K (.ref f) = true ∧ Binds K fd ps [] ∧ FnOk P w K mg base (L2.CX P w) k f fd ps (spO K mg ps.length F)
theorem CallOkO.up {P : Program} {w : World} {K : PySem.W.Frag} {mg : Str → Option Value} {base : Heap} {j k : Nat} {x : Str} {ps : List Str} {F : List D → Res D} (h : CallOkO P w K mg base j x ps F) (hjk : j ≤ k) : CallOkO P w K mg base k x ps F :=
  let ⟨f, fd, h1, h2, h3, h4⟩ := h.ok
  ⟨f, fd, h1, h2, h3, h4.mono hjk⟩
section
variable {X : Cx} {W : WX} {H0 : Bas} {G0 : Hp} {al : List Nat} {pos p : Pos}
theorem StOk.lose {K : PySem.W.Frag} {H G : Hp} {σ : L2.St} {e : DL.Env} (S : StOk K H0 G0 σ e H G) (i : Nat) : StOk K H0 G0 σ (e.set i none) H G := by
  have get : ∀ (j : Nat) (s : D × Bool), (e.set i none)[j]? = some (some s) → e[j]? = some (some s) := fun j s h => by
    rcases set_get h with ⟨_, z⟩ | ⟨_, z⟩
    · cases z
    · exact z
  exact ⟨S.ext, by rw [List.length_set]; exact S.len, fun j d h => S.sh j d (get j _ h), fun j d h => S.ow j d (get j _ h), fun j k d d' a h1 h2 h3 h4 => S.ne j k d d' a (get j _ h1) (get k _ h2) h3 h4, fun j a d hp h => S.pn j a d hp (get j _ h)⟩
end
end DL

/-! d.values() as a value; max(d.values(), default=c) -/
namespace L2
open PySem PySem.Spec PyProof.Rows
section
variable {X : Cx} {o : Expr} {apos mpos : Pos} {td : TE}
end
end L2
namespace DL
open PySem PySem.Spec PyProof.Rows L2
section
variable {X : Cx} {W : WX} {A : Nat → Prop} {o : Expr} {apos mpos p pos : Pos}
theorem Rd.mono' {H H' : Hp} (h : Sub H H') {a : Addr} {u : HO} (r : Rd H a u) : Rd H' a u := h.rd r
end
end DL

/-! comprehensions within one another -/
namespace DL
open PySem PySem.Spec PyProof.Rows L2
end DL

/-! dicts that are walked: keys, values, items -/
namespace DL
open PySem PySem.Spec PyProof.Rows L2
section
variable {X : Cx} {pins : List (Addr × Obj)} {σ : L2.St} {H : Hp} {s : Shared} {d : Addr} {o : Obj}
end
section
variable {P : Program} {w : World} {K : PySem.W.Frag} {tg : Expr} {d : Addr} {o : Obj} {es : Array DictEntry} {ep : Nat}
end
section
variable {X : Cx} {tg e : Expr} {td : TE} {apos cpos : Pos}
end
/-! what they walk, as data -/
section
variable {K : PySem.W.Frag} {B G : Hp} {d : Addr} {o : Obj}
end
section
variable {X : Cx} {W : WX} {A : Nat → Prop} {tg ex : Expr} {f : DL.Env → Res D} {apos cpos : Pos}
end
end DL

/-! dicts with tuple keys compared (values whole numbers) -/
namespace DL.EqH
open Lean PySem PySem.Calls PyProof.Rows PyProof.V PySem.Spec PySem.W
section
variable {prog : Program} {w : World} {K : Type} [DecidableEq K] {knd : HeapKind prog w K} {A : Around} {E : Value → Shared → Prop} {s : Shared}
inductive HitsH {K : Type} [DecidableEq K] (A : Around) (s : Shared) (kb : List (K × Addr × Value)) : List (K × Addr × Value) → Bool → Prop
  | nil : HitsH A s kb [] true
  | miss {k : K} {v : Addr × Value} {r : List (K × Addr × Value)} : (∀ (j : Nat) (p : Addr × Value), kb[j]? ≠ some (k, p)) → HitsH A s kb ((k, v) :: r) false
  | hit {k : K} {v y : Addr × Value} {r : List (K × Addr × Value)} {e b : Bool} {j : Nat} : kb[j]? = some (k, y) → SeqAt.EqAt A s v.2 y.2 e → HitsH A s kb r b → HitsH A s kb ((k, v) :: r) (e && b)
theorem HitsH.inv {kb : List (K × Addr × Value)} {k : K} {v : Addr × Value} {r : List (K × Addr × Value)} {b : Bool} (h : HitsH A s kb ((k, v) :: r) b) :
    ((∀ (j : Nat) (p : Addr × Value), kb[j]? ≠ some (k, p)) ∧ b = false) ∨ ∃ (j : Nat) (y : Addr × Value) (e b' : Bool), kb[j]? = some (k, y) ∧ SeqAt.EqAt A s v.2 y.2 e ∧ HitsH A s kb r b' ∧ b = (e && b') := by
  cases h with
  | miss hn => exact .inl ⟨hn, rfl⟩
  | hit hy he hr => exact .inr ⟨_, _, _, _, hy, he, hr, rfl⟩
theorem once {kb : List (K × Addr × Value)} (hn : (kb.map (·.1)).Nodup) {i j : Nat} {k : K} {p q : Addr × Value} (h1 : kb[i]? = some (k, p)) (h2 : kb[j]? = some (k, q)) : i = j := by
  obtain ⟨a1, a2⟩ := List.getElem?_eq_some_iff.mp h1
  obtain ⟨b1, b2⟩ := List.getElem?_eq_some_iff.mp h2
  have l1 : i < (kb.map (·.1)).length := by rwa [List.length_map]
  have l2 : j < (kb.map (·.1)).length := by rwa [List.length_map]
  refine (List.getElem_inj (h₀ := l1) (h₁ := l2) hn).mp ?_
  rw [List.getElem_map, List.getElem_map, a2, b2]
end
end DL.EqH
namespace DL
open PySem PySem.Spec PyProof.Rows L2
section
variable {X : Cx} {W : WX}
end
end DL

/-! isinstance(e, (A, B, ..)), e the error that a handler names -/
namespace DL
open PySem PySem.Spec PyProof.Rows L2
def anyO : List (Option Bool) → Option Bool
  | [] => some false
  | some true :: _ => some true
  | some false :: r => anyO r
  | none :: _ => none
/-- the tables of several classes, at the class k -/
inductive Tabs (K : PySem.W.Frag) (mg : Str → Option Value) (k : String) : List V → List Value → List (Option Bool) → Prop where
  | nil : Tabs K mg k [] [] []
  | cons {c : Addr} {t : String → Option Bool} {vs : List V} {us : List Value} {os : List (Option Bool)} (h : IsTab K mg (.ref c) t) (r : Tabs K mg k vs us os) : Tabs K mg k (.ref c :: vs) (.ref c :: us) (t k :: os)
theorem Tabs.cls {K : PySem.W.Frag} {mg : Str → Option Value} {k : String} {vs : List V} {us : List Value} {os : List (Option Bool)} (h : Tabs K mg k vs us os) : Paired ClsV vs us := by
  induction h with
  | nil => exact .nil
  | cons _ _ ih => exact .cons (.own _) ih
theorem Tabs.any {K : PySem.W.Frag} {mg : Str → Option Value} {k : String} {C : Addr} (hm : mg (Str.ofString k) = some (.ref C)) {vs : List V} {us : List Value} {os : List (Option Bool)} (h : Tabs K mg k vs us os) : ∀ {b : Bool}, anyO os = some b → PySem.W.kitAny K (.ref C) us = some b := by
  induction h with
  | nil => intro b h; cases h; exact kitAny_nil
  | @cons c t vs us os h r ih =>
    intro b hb
    cases ht : t k with
    | none => rw [ht] at hb; cases hb
    | some z =>
      obtain ⟨C', e, _, h3⟩ := h k z _ ht hm
      cases e
      rw [ht] at hb
      cases z with
      | true => cases hb; exact kitAny_cons h3 (fun z => by cases z) fun _ => rfl
      | false => exact kitAny_cons h3 (fun _ => ih hb) fun z => by cases z
section
variable {X : Cx} {W : WX} {A : Nat → Prop} {pos p p1 p2 : Pos}
end
end DL

/-! a def that is lent lists and dicts of the caller's own: it may change them; the caller has them back -/
namespace DL
open PySem PySem.Spec PyProof.Rows L2
/-- the lists and dicts that stand at these names -/
def owns : List Nat → Env → Option (List D)
  | [], _ => some []
  | i :: r, e => match e[i]? with
    | some (some (d, true)) => match owns r e with
      | some l => some (d :: l)
      | none => none
    | _ => none
theorem owns_get : ∀ {bs : List Nat} {e : Env} {cs : List D}, owns bs e = some cs → ∀ {k i : Nat} {c : D}, bs[k]? = some i → cs[k]? = some c → e[i]? = some (some (c, true))
  | [], _, _, _, k, _, _, h, _ => by simp at h
  | j :: r, e, cs, h, k, i, c, h1, h2 => by
    unfold owns at h
    split at h
    · rename_i d hd
      split at h
      · rename_i l hl
        cases h
        cases k with
        | zero => cases h1; cases h2; exact hd
        | succ k => exact owns_get hl (by simpa using h1) (by simpa using h2)
      · cases h
    · cases h
/-- the promise of a def that is lent its parameters at bs -/
def spM (K : PySem.W.Frag) (mg : Str → Option Value) (n : Nat) (bs : List Nat) (F : List D → Res (D × List D)) : Sp := fun vs H Q E => vs.length = n ∧ ∃ (ds : List D) (G : Hp) (B : Bas), Sub G B.hp ∧ Sub B.hp H ∧ ds.length = n ∧
  (∀ i d, ds[i]? = some d → i ∉ bs → ∃ v, vs[i]? = some v ∧ Rep K G d v) ∧
  (∀ i d, ds[i]? = some d → i ∈ bs → ∃ a, B.pin i = some a ∧ vs[i]? = some (.ref a) ∧ B.hp a = none ∧ OwnC K H G d a) ∧
  (∀ i, i ∉ bs → B.pin i = none) ∧ (∀ i j a, B.pin i = some a → B.pin j = some a → i = j) ∧
  match F ds with
  | .ok (r, cs) => ∀ H' G', Ext B.hp G H' G' → (∀ (k i : Nat) c, bs[k]? = some i → cs[k]? = some c → ∃ a, B.pin i = some a ∧ B.hp a = none ∧ G' a = none ∧ OwnC K H' G' c a) → ∀ v, Rep K G' r v → Q v H'
  | .exc c fs => ∀ cls o H', Sub B.hp H' → IsExc K mg c fs cls o H' → E cls o H'
  | .bad => False
structure CallOkM (P : Program) (w : World) (K : PySem.W.Frag) (mg : Str → Option Value) (base : Heap) (k : Nat) (x : Str) (ps : List Str) (bs : List Nat) (F : List D → Res (D × List D)) : Prop where
  ok : ∃ f fd, mg x = some (.ref f) ∧ PySem.W.keepIn K (.ref f) = true ∧ Binds K fd ps [] ∧ FnOk P w K mg base (L2.CX P w) k f fd ps (spM K mg ps.length bs F)
theorem CallOkM.up {P : Program} {w : World} {K : PySem.W.Frag} {mg : Str → Option Value} {base : Heap} {j k : Nat} {x : Str} {ps : List Str} {bs : List Nat} {F : List D → Res (D × List D)} (h : CallOkM P w K mg base j x ps bs F) (hjk : j ≤ k) : CallOkM P w K mg base k x ps bs F :=
  let ⟨f, fd, h1, h2, h3, h4⟩ := h.ok
  ⟨f, fd, h1, h2, h3, h4.mono hjk⟩
/-- the names at the start, those at bs lent -/
def envMa (bs : List Nat) : Nat → List D → Env
  | _, [] => []
  | k, d :: r => some (d, bs.elem k) :: envMa bs (k + 1) r
def envM (n m : Nat) (bs : List Nat) (ds : List D) : Env := envMa bs 0 ds ++ List.replicate (m - n) none
theorem envMa_len (bs : List Nat) : ∀ (k : Nat) (ds : List D), (envMa bs k ds).length = ds.length
  | _, [] => rfl
  | k, d :: r => by rw [envMa, List.length_cons, List.length_cons, envMa_len bs (k + 1) r]
theorem envMa_get (bs : List Nat) : ∀ (k : Nat) (ds : List D) (i : Nat), (envMa bs k ds)[i]? = ds[i]?.map fun d => some (d, bs.elem (k + i))
  | _, [], i => by simp [envMa]
  | k, d :: r, 0 => rfl
  | k, d :: r, i + 1 => by rw [envMa, List.getElem?_cons_succ, List.getElem?_cons_succ, envMa_get bs (k + 1) r i, show k + 1 + i = k + (i + 1) by omega]
def runDefM (n m : Nat) (bs : List Nat) (fb : Env → Out) : List D → Res (D × List D) := fun ds => match fb (envM n m bs ds) with
  | .rm d e => match owns bs e with
    | some cs => .ok (d, cs)
    | none => .bad
  | .nx e => match owns bs e with
    | some cs => .ok (.non, cs)
    | none => .bad
  | .ex c fs _ => .exc c fs
  | _ => .bad
theorem fnM {P : Program} {w : World} {K : PySem.W.Frag} {mg : Str → Option Value} {base : Heap} {x qual : Str} {st : Stmt} {f : Addr} {fd : FuncData} {N ps : List Str} {bs : List Nat} {k : Nat} {fb : Env → Out} (F : Fun K x qual st f fd) (S : FnScope N ps (defScope st)) (hbs : ∀ i ∈ bs, i < ps.length)
    (hbody : ∀ (cdv : Value) (A : Around) (outer : List PySem.Env) (s : Shared) (H G : Hp) (B : Bas) (E : XK), (∀ i, i ∉ bs → B.pin i = none) → Room k (A.deeper (envOfC qual (defScope st) s.heap.objs.size f cdv)) →
      Takes (cxOf (L2.CX P w) P w K mg base N qual (defScope st) f cdv A outer s H E) (wE E) → PassesOwn (model P w) (A.deeper (envOfC qual (defScope st) s.heap.objs.size f cdv)) (envOfC qual (defScope st) s.heap.objs.size f cdv) (cxOf (L2.CX P w) P w K mg base N qual (defScope st) f cdv A outer s H E).xe →
      DSs (cxOf (L2.CX P w) P w K mg base N qual (defScope st) f cdv A outer s H E) (wE E) B G (defBody st) fb) :
    FnOk P w K mg base (L2.CX P w) (k + 1) f fd ps (spM K mg ps.length bs (runDefM ps.length N.length bs fb)) := by
  refine F.okX S (fun vs H Q E h => h.1) fun cdv A outer s H vs Q E hr h => ?_
  obtain ⟨hl, ds, G, B, sg, sm, dl, hv, ho, hp0, hp1, p⟩ := h
  refine ⟨_, hbody cdv A outer s H G B E hp0 hr (takes_of rfl rfl rfl rfl) (passes_of rfl), envM ps.length N.length bs ds, G, ?_, ?_⟩
  · have hps : ps.length ≤ N.length := by have := congrArg List.length S.pre; rw [List.length_take] at this; omega
    have get : ∀ (i : Nat) (d : D) (o : Bool), (envM ps.length N.length bs ds)[i]? = some (some (d, o)) → ds[i]? = some d ∧ o = bs.elem i := fun i d o h => by
      unfold envM at h
      by_cases hi : i < ds.length
      · rw [List.getElem?_append_left (by rw [envMa_len]; exact hi), envMa_get, Nat.zero_add] at h
        cases q : ds[i]? with
        | none => rw [q] at h; cases h
        | some d' => rw [q] at h; cases h; exact ⟨rfl, rfl⟩
      · rw [List.getElem?_append_right (by rw [envMa_len]; omega), List.getElem?_replicate] at h
        split at h <;> cases h
    have st : ∀ (i : Nat) v, vs[i]? = some v → (L2.start N vs)[i]? = some (some v) := fun i v h => by
      have hi : i < vs.length := (List.getElem?_eq_some_iff.mp h).1
      unfold L2.start
      rw [List.getElem?_append_left (by simpa using hi), List.getElem?_map, h]
      rfl
    have lent : ∀ i d, (envM ps.length N.length bs ds)[i]? = some (some (d, true)) → ∃ a, B.pin i = some a ∧ vs[i]? = some (.ref a) ∧ B.hp a = none ∧ OwnC K H G d a := fun i d h => by
      obtain ⟨h1, h2⟩ := get i d true h
      exact ho i d h1 (List.elem_iff.mp h2.symm)
    refine ⟨⟨sm, Sub.refl _, sg.trans sm, fun b z => .inl z⟩, ?_, fun i d h => ?_, fun i d h => ?_, fun i j d d' b h1 h2 h3 h4 => ?_, fun i a d h1 h2 => ?_⟩
    · unfold L2.start envM
      simp only [List.length_append, List.length_map, List.length_replicate, envMa_len]
      omega
    · obtain ⟨h1, h2⟩ := get i d false h
      obtain ⟨v, h3, h4⟩ := hv i d h1 (fun z => by rw [List.elem_iff.mpr z] at h2; cases h2)
      exact ⟨v, st i v h3, h4⟩
    · obtain ⟨a, h1, h2, h3, h4⟩ := lent i d h
      refine ⟨a, st i _ h2, h3, ?_, h4⟩
      cases q : G a with
      | none => rfl
      | some o => rw [sg a o q] at h3; cases h3
    · obtain ⟨a, a1, a2, _⟩ := lent i d h1
      obtain ⟨a', b1, b2, _⟩ := lent j d' h2
      rw [st i _ a2] at h3; cases h3
      rw [st j _ b2] at h4; cases h4
      exact hp1 i j _ a1 b1
    · obtain ⟨a', a1, a2, _⟩ := lent i d h2
      rw [h1] at a1; cases a1
      exact st i _ a2
  · unfold runDefM at p
    have back : ∀ {e' : Env} {cs : List D}, owns bs e' = some cs → ∀ {σ' : L2.St} {H' G' : Hp}, StOk K B G σ' e' H' G' → ∀ (k i : Nat) c, bs[k]? = some i → cs[k]? = some c → ∃ a, B.pin i = some a ∧ B.hp a = none ∧ G' a = none ∧ OwnC K H' G' c a := fun hw σ' H' G' S' k i c h1 h2 => by
      have he := owns_get hw h1 h2
      obtain ⟨a, q1, q2, q3, q4⟩ := S'.ow i c he
      have hib : i ∈ bs := List.mem_of_getElem? h1
      have hil : i < ds.length := by rw [dl]; exact hbs i hib
      obtain ⟨a0, p1, _, p3, _⟩ := ho i ds[i] (List.getElem?_eq_getElem hil) hib
      have := S'.pn i a0 c p1 he
      rw [q1] at this
      cases this
      exact ⟨a, p1, p3, q3, q4⟩
    cases hr : fb (envM ps.length N.length bs ds) with
    | rm d e' =>
      rw [hr] at p
      dsimp only at p
      cases hw : owns bs e' with
      | none => rw [hw] at p; exact p.elim
      | some cs =>
        rw [hw] at p
        exact fun v σ' H' G' S' r => p H' G' S'.ext (back hw S') v r
    | nx e' =>
      rw [hr] at p
      dsimp only at p
      cases hw : owns bs e' with
      | none => rw [hw] at p; exact p.elim
      | some cs =>
        rw [hw] at p
        exact fun σ' H' G' S' => p H' G' S'.ext (back hw S') .non rfl
    | ex c fs e' =>
      rw [hr] at p
      exact fun cls o σ' H' G' H2 S' s2 ix => p cls o H2 (S'.ext.hh.trans s2) ix
    | rt d => rw [hr] at p; exact p.elim
    | ro d => rw [hr] at p; exact p.elim
    | bk e' => rw [hr] at p; exact p.elim
    | ct e' => rw [hr] at p; exact p.elim
    | bad => rw [hr] at p; exact p.elim
end DL

/-! calls of such defs: what is written, some of it lent -/
namespace DL
open PySem PySem.Spec PyProof.Rows L2
/-- what is handed over: a value, the list or dict of a name of one's own, a new list or dict -/
inductive MA where
  | val (d : D)
  | own (i : Nat)
  | new (d : D)
def RelM (K : PySem.W.Frag) (H G : Hp) (σ : L2.St) : List MA → List V → Prop
  | [], vs => vs = []
  | .val d :: r, vs => ∃ v l, vs = v :: l ∧ Rep K G d v ∧ RelM K H G σ r l
  | .own i :: r, vs => ∃ v l, vs = v :: l ∧ σ[i]? = some (some v) ∧ RelM K H G σ r l
  | .new d :: r, vs => ∃ a l, vs = .ref a :: l ∧ G a = none ∧ OwnC K H G d a ∧ RelM K H G σ r l
/-- where the new ones stand -/
def newsOf : List MA → List V → List Addr
  | .new _ :: r, .ref a :: l => a :: newsOf r l
  | _ :: r, _ :: l => newsOf r l
  | _, _ => []
def mNil : Env → Res (List MA) := fun _ => .ok []
def mVal (f : Env → Res D) (fs : Env → Res (List MA)) : Env → Res (List MA) := fun e => (f e).bind fun d => (fs e).bind fun l => .ok (.val d :: l)
/-- the list or dict of a name of one's own -/
def mLent (i : Nat) (fs : Env → Res (List MA)) : Env → Res (List MA) := fun e => match e[i]? with
  | some (some (_, true)) => (fs e).bind fun l => .ok (.own i :: l)
  | _ => .bad
section
variable (K : PySem.W.Frag) (mg : Str → Option Value) (W : WX) (A : Nat → Prop)
def tM (f : Env → Res (List MA)) : TA := fun σ H Q => ∃ e G, EnvG K A σ e H G ∧ PostG K mg (fun c o H' => W c o σ H') H G (f e) fun l H' G' => ∀ vs, RelM K H' G' σ l vs → (∀ a ∈ newsOf l vs, H a = none) → (newsOf l vs).Nodup → Q vs H'
end
section
variable {X : Cx} {W : WX} {A : Nat → Prop} {a : Expr} {es : List Expr} {H0 : Bas} {G0 : Hp} {al : List Nat} {pos p : Pos}
abbrev DM (X : Cx) (W : WX) (A : Nat → Prop) (es : List Expr) (f : Env → Res (List MA)) : Prop := PA X es (tM X.K X.mg W A f)
theorem dm_nil : DM X W A [] mNil := pa_nil.imp fun σ H Q ⟨e, G, E, p⟩ => p.here E.sub [] rfl (by simp [newsOf]) (by simp [newsOf])
theorem dm_val {f : Env → Res D} {fs : Env → Res (List MA)} (ha : DE X W A a f) (hr : DM X W A es fs) (hs : starEach (a :: es) X.env = (false, eval a X.env) :: starEach es X.env := by rfl) : DM X W A (a :: es) (mVal f fs) :=
  (pa_cons ha hr hs).imp fun σ H Q ⟨e, G, E, p⟩ => ⟨e, G, E, p.split.imp fun d H1 G1 x1 p1 v rv => ⟨e, G1, E.ext x1, p1.split.imp fun ds H2 G2 x2 p2 vs rs nf nd => p2.here x2.gh (v :: vs) ⟨v, vs, rfl, rv.mono x2.gg, rs⟩ (fun b hb => x1.hh.free (nf b hb)) nd⟩⟩
theorem dm_lent {i : Nat} {x : Str} {fs : Env → Res (List MA)} (hN : X.N[i]? = some x) (hv : Vis X.env.scope x) (hr : DM X W A es fs) (hd : (x == ("__debug__" : Str)) = false := by decide) (hcd : (x == ("__classdict__" : Str)) = false := by decide)
    (hs : starEach (.Name x p :: es) X.env = (false, eval (.Name x p) X.env) :: starEach es X.env := by rfl) : DM X W A (.Name x p :: es) (mLent i fs) :=
  (pa_cons (pe_var hN hv hd hcd) hr hs).imp fun σ H Q ⟨e, G, E, q⟩ => by
    unfold mLent at q
    revert q
    split
    · rename_i d h
      intro q
      obtain ⟨v, h1, _⟩ := E.val i d true h
      exact ⟨v, h1, e, G, E, q.split.imp fun ds H2 G2 x2 p2 vs rs nf nd => p2.here x2.gh (v :: vs) ⟨v, vs, rfl, h1, rs⟩ nf nd⟩
    · exact fun q => q.elim
/-- H without what stands at these addresses -/
noncomputable def hideP (H : Hp) (P : Addr → Prop) : Hp := open Classical in fun b => if P b then none else H b
theorem hideP_at (H : Hp) {P : Addr → Prop} {b : Addr} (h : P b) : hideP H P b = none := if_pos h
theorem hideP_ne (H : Hp) {P : Addr → Prop} {b : Addr} (h : ¬ P b) : hideP H P b = H b := if_neg h
theorem hideP_sub (H : Hp) (P : Addr → Prop) : Sub (hideP H P) H := fun b o e => by
  by_cases h : P b
  · rw [hideP_at H h] at e; cases e
  · rw [hideP_ne H h] at e; exact e
theorem sub_hideP {G H : Hp} {P : Addr → Prop} (s : Sub G H) (h : ∀ b, P b → G b = none) : Sub G (hideP H P) := fun b o e => by
  have : ¬ P b := fun z => by rw [h b z] at e; cases e
  rw [hideP_ne H this]; exact s b o e
theorem StOk.hideP {K : PySem.W.Frag} {H G : Hp} {σ : L2.St} {e : DL.Env} {P : Addr → Prop} (S : StOk K H0 G0 σ e H G) (h0 : ∀ b, P b → H0.hp b = none) (h1 : ∀ b, P b → G b = none) (h2 : ∀ (j : Nat) d b, e[j]? = some (some (d, true)) → σ[j]? = some (some (.ref b)) → ¬ P b) : StOk K H0 G0 σ e (hideP H P) G := by
  refine ⟨⟨sub_hideP S.ext.hh h0, S.ext.gg, sub_hideP S.ext.gh h1, S.ext.new⟩, S.len, S.sh, fun j d h => ?_, S.ne, S.pn⟩
  obtain ⟨b, q1, q2, q3, q4⟩ := S.ow j d h
  exact ⟨b, q1, q2, q3, q4.mono' (fun o z => by rw [hideP_ne H (h2 j d b h q1)]; exact z) (Sub.refl _)⟩
/-- a lent list or dict is had back -/
theorem StOk.regain {K : PySem.W.Frag} {H G : Hp} {σ : L2.St} {e : DL.Env} (S : StOk K H0 G0 σ e H G) {i : Nat} {c : D} {a : Addr} (hs : σ[i]? = some (some (.ref a))) (h0 : H0.hp a = none) (hg : G a = none) (ho : OwnC K H G c a) (hn : ∀ (j : Nat) d, j ≠ i → e[j]? = some (some (d, true)) → σ[j]? ≠ some (some (.ref a))) (hp : ∀ b, H0.pin i = some b → b = a) : StOk K H0 G0 σ (e.set i (some (c, true))) H G := by
  refine ⟨S.ext, by rw [List.length_set]; exact S.len, fun j d h => ?_, fun j d h => ?_, fun j k d d' b h1 h2 h3 h4 => ?_, fun j b d h1 h => ?_⟩
  · rcases set_get h with ⟨_, z⟩ | ⟨_, z⟩
    · cases z
    · exact S.sh j d z
  · rcases set_get h with ⟨rfl, z⟩ | ⟨_, z⟩
    · cases z; exact ⟨a, hs, h0, hg, ho⟩
    · exact S.ow j d z
  · rcases set_get h1 with ⟨rfl, z1⟩ | ⟨hj, z1⟩
    · rw [hs] at h3; cases h3
      rcases set_get h2 with ⟨rfl, _⟩ | ⟨hk, z2⟩
      · rfl
      · exact absurd h4 (hn k d' hk z2)
    · rcases set_get h2 with ⟨rfl, _⟩ | ⟨hk, z2⟩
      · rw [hs] at h4; cases h4
        exact absurd h3 (hn j d hj z1)
      · exact S.ne j k d d' b z1 z2 h3 h4
  · rcases set_get h with ⟨rfl, _⟩ | ⟨_, z⟩
    · rw [hp b h1]; exact hs
    · exact S.pn j b d h1 z
end
end DL

/-! the call itself -/
namespace DL
open PySem PySem.Spec PyProof.Rows L2
/-- the names that are lent -/
def lentOf : List MA → List Nat
  | [] => []
  | .own i :: r => i :: lentOf r
  | _ :: r => lentOf r
/-- .. what comes back for them, of all that was changed -/
def backOf : List MA → List D → List D
  | .own _ :: r, c :: cs => c :: backOf r cs
  | .new _ :: r, _ :: cs => backOf r cs
  | .val _ :: r, cs => backOf r cs
  | _, _ => []
/-- .. and where what is lent stands among what is handed over -/
def posOf : Nat → List MA → List Nat
  | _, [] => []
  | k, .val _ :: r => posOf (k + 1) r
  | k, _ :: r => k :: posOf (k + 1) r
/-- what is handed over, as data -/
def dsOf (e : Env) : List MA → List D
  | [] => []
  | .val d :: r => d :: dsOf e r
  | .new d :: r => d :: dsOf e r
  | .own i :: r => (match e[i]? with | some (some (d, _)) => d | _ => .non) :: dsOf e r
def giveB : List Nat → List D → Env → Env
  | i :: r, c :: cs, e => giveB r cs (e.set i (some (c, true)))
  | _, _, e => e
def loseB : List Nat → Env → Env
  | [], e => e
  | i :: r, e => loseB r (e.set i none)
theorem dsOf_len (e : Env) : ∀ l, (dsOf e l).length = l.length
  | [] => rfl
  | .val d :: r => by rw [dsOf, List.length_cons, List.length_cons, dsOf_len e r]
  | .new d :: r => by rw [dsOf, List.length_cons, List.length_cons, dsOf_len e r]
  | .own _ :: r => by rw [dsOf, List.length_cons, List.length_cons, dsOf_len e r]
theorem RelM.length {K : PySem.W.Frag} {H G : Hp} {σ : L2.St} : ∀ {l : List MA} {vs : List V}, RelM K H G σ l vs → vs.length = l.length
  | [], _, h => by rw [show _ = [] from h]; rfl
  | .val _ :: _, _, ⟨v, r, e, _, h⟩ => by rw [e, List.length_cons, List.length_cons, RelM.length h]
  | .own _ :: _, _, ⟨v, r, e, _, h⟩ => by rw [e, List.length_cons, List.length_cons, RelM.length h]
  | .new _ :: _, _, ⟨v, r, e, _, _, h⟩ => by rw [e, List.length_cons, List.length_cons, RelM.length h]
/-- what is so of a thing handed over -/
def AtM (K : PySem.W.Frag) (H G : Hp) (σ : L2.St) : MA → V → Prop
  | .val d, v => Rep K G d v
  | .own i, v => σ[i]? = some (some v)
  | .new d, v => ∃ a, v = .ref a ∧ G a = none ∧ OwnC K H G d a
theorem RelM.at {K : PySem.W.Frag} {H G : Hp} {σ : L2.St} : ∀ {l : List MA} {vs : List V} {k : Nat} {z : MA}, RelM K H G σ l vs → l[k]? = some z → ∃ v, vs[k]? = some v ∧ AtM K H G σ z v
  | .val d :: _, _, 0, _, ⟨v, r, e, h1, _⟩, h => by cases h; exact ⟨v, by rw [e]; rfl, h1⟩
  | .own i :: _, _, 0, _, ⟨v, r, e, h1, _⟩, h => by cases h; exact ⟨v, by rw [e]; rfl, h1⟩
  | .new i :: _, _, 0, _, ⟨v, r, e, h1, h2, _⟩, h => by cases h; exact ⟨.ref v, by rw [e]; rfl, v, rfl, h1, h2⟩
  | .val _ :: l, _, k + 1, z, ⟨v, r, e, _, h2⟩, h => by
    obtain ⟨w, h3, h4⟩ := RelM.at (k := k) (z := z) h2 (by simpa using h)
    exact ⟨w, by rw [e]; simpa using h3, h4⟩
  | .own _ :: l, _, k + 1, z, ⟨v, r, e, _, h2⟩, h => by
    obtain ⟨w, h3, h4⟩ := RelM.at (k := k) (z := z) h2 (by simpa using h)
    exact ⟨w, by rw [e]; simpa using h3, h4⟩
  | .new _ :: l, _, k + 1, z, ⟨v, r, e, _, _, h2⟩, h => by
    obtain ⟨w, h3, h4⟩ := RelM.at (k := k) (z := z) h2 (by simpa using h)
    exact ⟨w, by rw [e]; simpa using h3, h4⟩
theorem news_at {K : PySem.W.Frag} {H G : Hp} {σ : L2.St} : ∀ {l : List MA} {vs : List V} {k : Nat} {d : D} {a : Addr}, RelM K H G σ l vs → l[k]? = some (.new d) → vs[k]? = some (.ref a) → a ∈ newsOf l vs
  | .new d :: _, _, 0, _, b, ⟨v, r, e, h1, h2, _⟩, h, q => by subst e; cases q; exact List.mem_cons_self
  | .val _ :: l, _, 0, _, _, _, h, _ => by cases h
  | .own _ :: l, _, 0, _, _, _, h, _ => by cases h
  | .val _ :: l, _, k + 1, d, b, ⟨v, r, e, _, h2⟩, h, q => by
    subst e
    have := news_at (k := k) (d := d) (a := b) h2 (by simpa using h) (by simpa using q)
    cases v <;> exact this
  | .own _ :: l, _, k + 1, d, b, ⟨v, r, e, _, h2⟩, h, q => by
    subst e
    have := news_at (k := k) (d := d) (a := b) h2 (by simpa using h) (by simpa using q)
    cases v <;> exact this
  | .new _ :: l, _, k + 1, d, b, ⟨v, r, e, _, _, h2⟩, h, q => by
    subst e
    exact List.mem_cons_of_mem _ (news_at (k := k) (d := d) (a := b) h2 (by simpa using h) (by simpa using q))
theorem news_mem {K : PySem.W.Frag} {H G : Hp} {σ : L2.St} : ∀ {l : List MA} {vs : List V} {a : Addr}, RelM K H G σ l vs → a ∈ newsOf l vs → ∃ (k : Nat) (d : D), l[k]? = some (.new d) ∧ vs[k]? = some (.ref a) ∧ G a = none ∧ OwnC K H G d a
  | [], _, _, h, q => by rw [show _ = [] from h] at q; cases q
  | .val _ :: l, _, b, ⟨v, r, e, _, h2⟩, q => by
    subst e
    have q : b ∈ newsOf l r := by cases v <;> exact q
    obtain ⟨k, d, a1, a2⟩ := news_mem h2 q
    exact ⟨k + 1, d, by simpa using a1, by simpa using a2⟩
  | .own _ :: l, _, b, ⟨v, r, e, _, h2⟩, q => by
    subst e
    have q : b ∈ newsOf l r := by cases v <;> exact q
    obtain ⟨k, d, a1, a2⟩ := news_mem h2 q
    exact ⟨k + 1, d, by simpa using a1, by simpa using a2⟩
  | .new d0 :: l, _, b, ⟨v, r, e, g0, o0, h2⟩, q => by
    subst e
    rcases List.mem_cons.mp q with rfl | q
    · exact ⟨0, d0, rfl, rfl, g0, o0⟩
    · obtain ⟨k, d, a1, a2⟩ := news_mem h2 q
      exact ⟨k + 1, d, by simpa using a1, by simpa using a2⟩
theorem news_inj {K : PySem.W.Frag} {H G : Hp} {σ : L2.St} : ∀ {l : List MA} {vs : List V} {k j : Nat} {d d' : D} {a : Addr}, RelM K H G σ l vs → (newsOf l vs).Nodup → l[k]? = some (.new d) → l[j]? = some (.new d') → vs[k]? = some (.ref a) → vs[j]? = some (.ref a) → k = j
  | .val _ :: l, _, 0, _, _, _, _, _, _, h, _, _, _ => by cases h
  | .own _ :: l, _, 0, _, _, _, _, _, _, h, _, _, _ => by cases h
  | .val _ :: l, _, _ + 1, 0, _, _, _, _, _, _, h, _, _ => by cases h
  | .own _ :: l, _, _ + 1, 0, _, _, _, _, _, _, h, _, _ => by cases h
  | .new _ :: l, _, 0, 0, _, _, _, _, _, _, _, _, _ => rfl
  | .new _ :: l, _, 0, j + 1, _, d', b, ⟨v, r, e, _, _, h2⟩, nd, _, h, q, q' => by
    subst e
    cases q
    exact absurd (news_at h2 (by simpa using h) (by simpa using q')) (List.nodup_cons.mp nd).1
  | .new _ :: l, _, k + 1, 0, _, d', b, ⟨v, r, e, _, _, h2⟩, nd, h, _, q, q' => by
    subst e
    cases q'
    exact absurd (news_at h2 (by simpa using h) (by simpa using q)) (List.nodup_cons.mp nd).1
  | .new _ :: l, _, k + 1, j + 1, _, _, b, ⟨v, r, e, _, _, h2⟩, nd, h, h', q, q' => by
    subst e
    exact congrArg (· + 1) (news_inj h2 (List.nodup_cons.mp nd).2 (by simpa using h) (by simpa using h') (by simpa using q) (by simpa using q'))
  | .val _ :: l, _, k + 1, j + 1, _, _, b, ⟨v, r, e, _, h2⟩, nd, h, h', q, q' => by
    subst e
    have nd : (newsOf l r).Nodup := by cases v <;> exact nd
    exact congrArg (· + 1) (news_inj h2 nd (by simpa using h) (by simpa using h') (by simpa using q) (by simpa using q'))
  | .own _ :: l, _, k + 1, j + 1, _, _, b, ⟨v, r, e, _, h2⟩, nd, h, h', q, q' => by
    subst e
    have nd : (newsOf l r).Nodup := by cases v <;> exact nd
    exact congrArg (· + 1) (news_inj h2 nd (by simpa using h) (by simpa using h') (by simpa using q) (by simpa using q'))
theorem dsOf_at (e : Env) : ∀ {l : List MA} {k : Nat} {d : D}, (dsOf e l)[k]? = some d → ∃ z, l[k]? = some z ∧ (match z with | .val d' => d = d' | .new d' => d = d' | .own i => d = (match e[i]? with | some (some (d, _)) => d | _ => .non))
  | [], _, _, h => by simp [dsOf] at h
  | .val d :: _, 0, _, h => by cases h; exact ⟨_, rfl, rfl⟩
  | .new d :: _, 0, _, h => by cases h; exact ⟨_, rfl, rfl⟩
  | .own i :: _, 0, _, h => by cases h; exact ⟨_, rfl, rfl⟩
  | .val _ :: l, k + 1, d, h => by
    have := dsOf_at e (l := l) (k := k) (d := d) (by simpa [dsOf] using h)
    simpa using this
  | .new _ :: l, k + 1, d, h => by
    have := dsOf_at e (l := l) (k := k) (d := d) (by simpa [dsOf] using h)
    simpa using this
  | .own _ :: l, k + 1, d, h => by
    have := dsOf_at e (l := l) (k := k) (d := d) (by simpa [dsOf] using h)
    simpa using this
def MA.isVal : MA → Bool
  | .val _ => true
  | _ => false
theorem pos_low : ∀ (r : List MA) (t j : Nat), j ∈ posOf t r → t ≤ j
  | [], t, j, h => by simp [posOf] at h
  | .val d :: r, t, j, h => by have := pos_low r (t + 1) j h; omega
  | .own i :: r, t, j, h => by
    rcases List.mem_cons.mp h with rfl | h
    · exact Nat.le_refl _
    · have := pos_low r (t + 1) j h; omega
  | .new i :: r, t, j, h => by
    rcases List.mem_cons.mp h with rfl | h
    · exact Nat.le_refl _
    · have := pos_low r (t + 1) j h; omega
theorem posOf_mem : ∀ {l : List MA} {s k : Nat}, s + k ∈ posOf s l ↔ ∃ z, l[k]? = some z ∧ z.isVal = false := by
  intro l
  induction l with
  | nil => intro s k; simp [posOf]
  | cons z r ih =>
    intro s k
    cases k with
    | zero =>
      cases z with
      | val d =>
        constructor
        · intro h; have := pos_low r (s + 1) (s + 0) h; omega
        · rintro ⟨i, h, q⟩; cases h; cases q
      | own i => exact ⟨fun _ => ⟨_, rfl, rfl⟩, fun _ => List.mem_cons_self⟩
      | new i => exact ⟨fun _ => ⟨_, rfl, rfl⟩, fun _ => List.mem_cons_self⟩
    | succ k =>
      have q := ih (s := s + 1) (k := k)
      rw [show s + 1 + k = s + (k + 1) by omega] at q
      cases z with
      | val d => rw [List.getElem?_cons_succ]; exact q
      | own i =>
        rw [List.getElem?_cons_succ]
        constructor
        · intro h
          rcases List.mem_cons.mp h with e | h
          · omega
          · exact q.mp h
        · intro h; exact List.mem_cons_of_mem _ (q.mpr h)
      | new i =>
        rw [List.getElem?_cons_succ]
        constructor
        · intro h
          rcases List.mem_cons.mp h with e | h
          · omega
          · exact q.mp h
        · intro h; exact List.mem_cons_of_mem _ (q.mpr h)
theorem lent_mem : ∀ {l : List MA} {i : Nat}, i ∈ lentOf l ↔ ∃ k : Nat, l[k]? = some (MA.own i)
  | [], i => by simp [lentOf]
  | .val d :: r, i => by
    rw [show lentOf (.val d :: r) = lentOf r from rfl, lent_mem]
    exact ⟨fun ⟨k, h⟩ => ⟨k + 1, by simpa using h⟩, fun ⟨k, h⟩ => by cases k with | zero => cases h | succ k => exact ⟨k, by simpa using h⟩⟩
  | .new d :: r, i => by
    rw [show lentOf (.new d :: r) = lentOf r from rfl, lent_mem]
    exact ⟨fun ⟨k, h⟩ => ⟨k + 1, by simpa using h⟩, fun ⟨k, h⟩ => by cases k with | zero => cases h | succ k => exact ⟨k, by simpa using h⟩⟩
  | .own j :: r, i => by
    rw [lentOf, List.mem_cons, lent_mem]
    constructor
    · rintro (rfl | ⟨k, h⟩)
      · exact ⟨0, rfl⟩
      · exact ⟨k + 1, by simpa using h⟩
    · rintro ⟨k, h⟩
      cases k with
      | zero => cases h; exact .inl rfl
      | succ k => exact .inr ⟨k, by simpa using h⟩
/-- what comes back for the n-th name stands at that name's place -/
theorem back_at : ∀ {l : List MA} {cs : List D} {s n i : Nat} {c : D}, cs.length = (posOf s l).length → (lentOf l)[n]? = some i → (backOf l cs)[n]? = some c → ∃ (k m : Nat), l[k]? = some (MA.own i) ∧ (posOf s l)[m]? = some (s + k) ∧ cs[m]? = some c
  | [], cs, s, n, i, c, hl, h, q => by simp [lentOf] at h
  | .val _ :: r, cs, s, n, i, c, hl, h, q => by
    obtain ⟨k, m, a, b, d⟩ := back_at (l := r) (s := s + 1) hl h (by cases cs <;> exact q)
    exact ⟨k + 1, m, by simpa using a, by rw [show s + (k + 1) = s + 1 + k by omega]; exact b, d⟩
  | .own j :: r, [], s, n, i, c, hl, h, q => by simp [posOf] at hl
  | .new j :: r, [], s, n, i, c, hl, h, q => by simp [posOf] at hl
  | .own j :: r, c0 :: cs, s, 0, i, c, hl, h, q => by cases h; cases q; exact ⟨0, 0, rfl, rfl, rfl⟩
  | .own j :: r, c0 :: cs, s, n + 1, i, c, hl, h, q => by
    obtain ⟨k, m, a, b, d⟩ := back_at (l := r) (s := s + 1) (cs := cs) (n := n) (i := i) (c := c) (by simpa [posOf] using hl) (by simpa [lentOf] using h) (by simpa [backOf] using q)
    exact ⟨k + 1, m + 1, by simpa using a, by rw [show s + (k + 1) = s + 1 + k by omega]; simpa [posOf] using b, by simpa using d⟩
  | .new j :: r, c0 :: cs, s, n, i, c, hl, h, q => by
    obtain ⟨k, m, a, b, d⟩ := back_at (l := r) (s := s + 1) (cs := cs) (n := n) (i := i) (c := c) (by simpa [posOf] using hl) h q
    exact ⟨k + 1, m + 1, by simpa using a, by rw [show s + (k + 1) = s + 1 + k by omega]; simpa [posOf] using b, by simpa using d⟩
theorem back_len : ∀ {l : List MA} {cs : List D} {s : Nat}, cs.length = (posOf s l).length → (backOf l cs).length = (lentOf l).length
  | [], cs, s, hl => by cases cs <;> rfl
  | .val _ :: r, cs, s, hl => by have := back_len (l := r) (cs := cs) (s := s + 1) hl; cases cs <;> exact this
  | .own j :: r, [], s, hl => by simp [posOf] at hl
  | .new j :: r, [], s, hl => by simp [posOf] at hl
  | .own j :: r, c0 :: cs, s, hl => by rw [backOf, lentOf, List.length_cons, List.length_cons, back_len (l := r) (s := s + 1) (by simpa [posOf] using hl)]
  | .new j :: r, c0 :: cs, s, hl => by exact back_len (l := r) (s := s + 1) (by simpa [posOf] using hl)
section
variable {K : PySem.W.Frag} {H0 : Bas} {G0 H G : Hp} {σ : L2.St}
theorem StOk.loseB : ∀ (ls : List Nat) {e : Env}, StOk K H0 G0 σ e H G → StOk K H0 G0 σ (loseB ls e) H G
  | [], _, S => S
  | i :: r, _, S => StOk.loseB r (S.lose i)
theorem loseB_get : ∀ (ls : List Nat) {e : Env} {j : Nat} {z : D × Bool}, (loseB ls e)[j]? = some (some z) → j ∉ ls ∧ e[j]? = some (some z)
  | [], _, _, _, h => ⟨by simp, h⟩
  | i :: r, e, j, z, h => by
    obtain ⟨h1, h2⟩ := loseB_get r h
    rcases set_get h2 with ⟨_, q⟩ | ⟨q, h3⟩
    · cases q
    · exact ⟨by simp [q, h1], h3⟩
theorem loseB_set : ∀ (ls : List Nat) (e : Env) (i : Nat) (x : Sl), i ∉ ls → (loseB ls e).set i x = loseB ls (e.set i x)
  | [], _, _, _, _ => rfl
  | j :: r, e, i, x, h => by
    rw [loseB, loseB, loseB_set r _ i x (fun z => h (List.mem_cons_of_mem _ z)), List.set_comm _ _ (fun z => h (by rw [z]; exact List.mem_cons_self))]
/-- all that was lent is had back -/
theorem StOk.giveB : ∀ (ls : List Nat) (cs : List D) {e : Env}, ls.Nodup → cs.length = ls.length → StOk K H0 G0 σ (DL.loseB ls e) H G →
    (∀ (k i : Nat) c, ls[k]? = some i → cs[k]? = some c → ∃ a, σ[i]? = some (some (.ref a)) ∧ H0.hp a = none ∧ G a = none ∧ OwnC K H G c a ∧ (∀ b, H0.pin i = some b → b = a) ∧ (∀ (j : Nat) d, j ∉ ls → e[j]? = some (some (d, true)) → σ[j]? ≠ some (some (.ref a))) ∧ (∀ j, j ∈ ls → j ≠ i → σ[j]? ≠ some (some (.ref a)))) → StOk K H0 G0 σ (DL.giveB ls cs e) H G
  | [], [], e, _, _, S, _ => S
  | [], _ :: _, _, _, h, _, _ => by simp at h
  | _ :: _, [], _, _, h, _, _ => by simp at h
  | i :: r, c :: cs, e, nd, hl, S, h => by
    obtain ⟨ni, nr⟩ := List.nodup_cons.mp nd
    obtain ⟨a, h1, h2, h3, h4, h5, h6, h7⟩ := h 0 i c rfl rfl
    have S1 : StOk K H0 G0 σ (DL.loseB r (e.set i (some (c, true)))) H G := by
      have := StOk.regain (i := i) (c := c) S h1 h2 h3 h4 (fun j d hj hd => by
        obtain ⟨q1, q2⟩ := loseB_get (i :: r) hd
        exact h6 j d q1 q2) h5
      rw [DL.loseB, loseB_set r _ i _ ni, List.set_set] at this
      exact this
    refine StOk.giveB r cs nr (by simpa using hl) S1 fun k j c' hj hc => ?_
    obtain ⟨a', g1, g2, g3, g4, g5, g6, g7⟩ := h (k + 1) j c' (by simpa using hj) (by simpa using hc)
    have hjr : j ∈ r := List.mem_of_getElem? hj
    refine ⟨a', g1, g2, g3, g4, g5, fun m d hm hd => ?_, fun m hm => g7 m (List.mem_cons_of_mem _ hm)⟩
    rcases set_get hd with ⟨rfl, _⟩ | ⟨hmi, hd'⟩
    · exact g7 m List.mem_cons_self (fun z => ni (by rw [z]; exact hjr))
    · exact g6 m d (by simp [hmi, hm]) hd'
end
end DL

/-! statements that call a def that is lent lists and dicts -/
namespace DL
open PySem PySem.Spec PyProof.Rows L2
def ownedB (e : Env) (ls : List Nat) : Bool := ls.all fun i => match e[i]? with
  | some (some (_, true)) => true
  | _ => false
theorem ownedB_get {e : Env} {ls : List Nat} (h : ownedB e ls = true) {i : Nat} (hi : i ∈ ls) : ∃ d, e[i]? = some (some (d, true)) := by
  have := List.all_eq_true.mp h i hi
  revert this
  split
  · rename_i d q; exact fun _ => ⟨d, q⟩
  · exact fun z => by cases z
/-- a call of such a def; what follows hangs on what it tells and on what it changed -/
def callM (al : List Nat) (fs : Env → Res (List MA)) (bs : List Nat) (F : List D → Res (D × List D)) (k : D → Env → Out) : Env → Out := sE al fs fun l e =>
  if (decide (posOf 0 l = bs) && (decide (lentOf l).Nodup && ownedB e (lentOf l))) = true then (match F (dsOf e l) with
    | .ok (r, cs) => if cs.length = bs.length then k r (giveB (lentOf l) (backOf l cs) e) else .bad
    | .exc c xs => .ex c xs (loseB (lentOf l) e)
    | .bad => .bad) else .bad
def MLen (fs : Env → Res (List MA)) (n : Nat) : Prop := ∀ e l, fs e = .ok l → l.length = n
theorem mlen_nil : MLen mNil 0 := fun e l h => by cases h; rfl
theorem mlen_val {f : Env → Res D} {fs : Env → Res (List MA)} {n : Nat} (h : MLen fs n) : MLen (mVal f fs) (n + 1) := fun e l q => by
  unfold mVal at q
  cases hf : f e with
  | ok d =>
    rw [hf] at q
    cases hs : fs e with
    | ok es => rw [hs] at q; cases q; exact congrArg (· + 1) (h e es hs)
    | exc c x => rw [hs] at q; cases q
    | bad => rw [hs] at q; cases q
  | exc c x => rw [hf] at q; cases q
  | bad => rw [hf] at q; cases q
theorem mlen_lent {i : Nat} {fs : Env → Res (List MA)} {n : Nat} (h : MLen fs n) : MLen (mLent i fs) (n + 1) := fun e l q => by
  unfold mLent at q
  split at q
  · cases hs : fs e with
    | ok es => rw [hs] at q; cases q; exact congrArg (· + 1) (h e es hs)
    | exc c x => rw [hs] at q; cases q
    | bad => rw [hs] at q; cases q
  · cases q
section
variable {X : Cx} {W : WX} {H0 : Bas} {G0 : Hp} {al : List Nat} {pos : Pos}
/-- where what is handed over stands -/
def addrAt (l : List MA) (vs : List V) (k : Nat) : Option Addr := match l[k]?, vs[k]? with
  | some (.val _), _ => none
  | some _, some (.ref a) => some a
  | _, _ => none
theorem callM_args {n : Nat} {bs : List Nat} {F : List D → Res (D × List D)} {k : D → Env → Out} {l : List MA} {vs : List V} {σ : L2.St} {e : Env} {H1 G1 Hs : Hp} {Z : Ends} {Q : VK} (hn : l.length = n) (S : StOk X.K H0 G0 σ e H1 G1) (hs0 : Sub H0.hp Hs)
    (rs : RelM X.K H1 G1 σ l vs) (nf : ∀ a ∈ newsOf l vs, Hs a = none) (nd : (newsOf l vs).Nodup) (own0 : ∀ (i : Nat) d a, e[i]? = some (some (d, true)) → σ[i]? = some (some (.ref a)) → Hs a ≠ none)
    (p : SPost X.K X.mg W H0 G0 (if (decide (posOf 0 l = bs) && (decide (lentOf l).Nodup && ownedB e (lentOf l))) = true then (match F (dsOf e l) with
      | .ok (r, cs) => if cs.length = bs.length then k r (giveB (lentOf l) (backOf l cs) e) else .bad
      | .exc c xs => .ex c xs (loseB (lentOf l) e)
      | .bad => .bad) else .bad) Z)
    (hQ : ∀ r e' v H' G', Sub G1 G' → StOk X.K H0 G0 σ e' H' G' → Rep X.K G' r v → SPost X.K X.mg W H0 G0 (k r e') Z → Q v H') :
    spM X.K X.mg n bs F vs H1 Q (fun c o H' => W c o σ H') := by
  by_cases hc : (decide (posOf 0 l = bs) && (decide (lentOf l).Nodup && ownedB e (lentOf l))) = true
  · rw [if_pos hc] at p
    simp only [Bool.and_eq_true, decide_eq_true_eq] at hc
    obtain ⟨hp, ln, lo⟩ := hc
    -- what is hidden
    let P : Addr → Prop := fun b => (∃ i, i ∈ lentOf l ∧ σ[i]? = some (some (.ref b))) ∨ b ∈ newsOf l vs
    have ownOf : ∀ {i : Nat}, i ∈ lentOf l → ∃ d a, e[i]? = some (some (d, true)) ∧ σ[i]? = some (some (.ref a)) ∧ H0.hp a = none ∧ G1 a = none ∧ OwnC X.K H1 G1 d a := fun {i} hi => by
      obtain ⟨d, hd⟩ := ownedB_get lo hi
      obtain ⟨a, q1, q2, q3, q4⟩ := S.ow i d hd
      exact ⟨d, a, hd, q1, q2, q3, q4⟩
    have P0 : ∀ b, P b → H0.hp b = none := fun b hb => by
      rcases hb with ⟨i, hi, hb⟩ | hb
      · obtain ⟨d, a, _, q1, q2, _⟩ := ownOf hi
        rw [hb] at q1; cases q1; exact q2
      · exact hs0.free (nf b hb)
    have P1 : ∀ b, P b → G1 b = none := fun b hb => by
      rcases hb with ⟨i, hi, hb⟩ | hb
      · obtain ⟨d, a, _, q1, _, q3, _⟩ := ownOf hi
        rw [hb] at q1; cases q1; exact q3
      · obtain ⟨_, _, _, _, g, _⟩ := news_mem rs hb
        exact g
    have S2 : StOk X.K H0 G0 σ (loseB (lentOf l) e) (DL.hideP H1 P) G1 := (StOk.loseB (lentOf l) S).hideP P0 P1 fun j d b h1 h2 hb => by
      obtain ⟨h3, h4⟩ := loseB_get _ h1
      rcases hb with ⟨i, hi, hb⟩ | hb
      · obtain ⟨d', hd'⟩ := ownedB_get lo hi
        exact h3 (by rw [S.ne j i d d' b h4 hd' h2 hb]; exact hi)
      · exact own0 j d b h4 h2 (nf b hb)
    have vl : vs.length = n := by rw [rs.length, hn]
    -- the addresses
    have addr : ∀ {i : Nat} {z : MA}, l[i]? = some z → z.isVal = false → ∃ d a, addrAt l vs i = some a ∧ vs[i]? = some (.ref a) ∧ P a ∧ OwnC X.K H1 G1 d a ∧ (dsOf e l)[i]? = some d := fun {i z} hz hv => by
      obtain ⟨v, h1, h2⟩ := rs.at hz
      have hlt : i < (dsOf e l).length := by rw [dsOf_len]; exact (List.getElem?_eq_some_iff.mp hz).1
      obtain ⟨z', hz', hd'⟩ := dsOf_at e (l := l) (List.getElem?_eq_getElem hlt)
      rw [hz] at hz'; cases hz'
      cases z with
      | val d => cases hv
      | own j =>
        have hj : j ∈ lentOf l := lent_mem.mpr ⟨i, hz⟩
        obtain ⟨d, a, q1, q2, q3, q4, q5⟩ := ownOf hj
        have h2 : σ[j]? = some (some v) := h2
        rw [q2] at h2; cases h2
        refine ⟨d, a, by unfold addrAt; rw [hz, h1], h1, .inl ⟨j, hj, q2⟩, q5, ?_⟩
        rw [List.getElem?_eq_getElem hlt]
        dsimp only at hd'
        rw [hd', q1]
      | new d =>
        obtain ⟨a, rfl, h3, h4⟩ := h2
        refine ⟨d, a, by unfold addrAt; rw [hz, h1], h1, .inr (news_at rs hz h1), h4, ?_⟩
        rw [List.getElem?_eq_getElem hlt]
        dsimp only at hd'
        rw [hd']
    have inPos : ∀ {i : Nat}, i ∈ bs ↔ ∃ z, l[i]? = some z ∧ z.isVal = false := fun {i} => by
      rw [← hp]
      have := posOf_mem (l := l) (s := 0) (k := i)
      rwa [Nat.zero_add] at this
    refine ⟨vl, dsOf e l, G1, ⟨DL.hideP H1 P, addrAt l vs⟩, sub_hideP S.ext.gh P1, hideP_sub _ _, by rw [dsOf_len, hn], fun i d hd hi => ?_, fun i d hd hi => ?_, fun i hi => ?_, fun i j a hi hj => ?_, ?_⟩
    · obtain ⟨z, hz, hd'⟩ := dsOf_at e hd
      cases z with
      | val d' =>
        obtain ⟨v, h1, h2⟩ := rs.at hz
        have hd' : d = d' := hd'
        rw [hd']
        exact ⟨v, h1, h2⟩
      | own j => exact absurd (inPos.mpr ⟨_, hz, rfl⟩) hi
      | new d' => exact absurd (inPos.mpr ⟨_, hz, rfl⟩) hi
    · obtain ⟨z, hz, hv⟩ := inPos.mp hi
      obtain ⟨d', a, a1, a2, a3, a4, a5⟩ := addr hz hv
      rw [hd] at a5; cases a5
      exact ⟨a, a1, a2, hideP_at _ a3, a4⟩
    · show addrAt l vs i = none
      unfold addrAt
      cases q : l[i]? with
      | none => rfl
      | some z =>
        cases z with
        | val d => rfl
        | own j => exact absurd (inPos.mpr ⟨_, q, rfl⟩) hi
        | new d => exact absurd (inPos.mpr ⟨_, q, rfl⟩) hi
    · -- no two places have one address
      have what : ∀ {i : Nat}, addrAt l vs i = some a → vs[i]? = some (.ref a) ∧ ((∃ m, l[i]? = some (.own m) ∧ σ[m]? = some (some (.ref a))) ∨ ∃ d, l[i]? = some (.new d)) := fun {i} h => by
        unfold addrAt at h
        cases q : l[i]? with
        | none => rw [q] at h; cases h
        | some z =>
          rw [q] at h
          obtain ⟨v, h1, h2⟩ := rs.at q
          rw [h1] at h
          cases z with
          | val d => cases h
          | own m =>
            cases v with
            | ref b => cases h; exact ⟨h1, .inl ⟨m, rfl, h2⟩⟩
            | _ => cases h
          | new d =>
            cases v with
            | ref b => cases h; exact ⟨h1, .inr ⟨d, rfl⟩⟩
            | _ => cases h
      obtain ⟨vi, wi⟩ := what hi
      obtain ⟨vj, wj⟩ := what hj
      have oldNe : ∀ m, (∃ q : Nat, l[q]? = some (.own m)) → σ[m]? = some (some (.ref a)) → a ∉ newsOf l vs := fun m hq hm z => by
        obtain ⟨d, hd⟩ := ownedB_get lo (lent_mem.mpr hq)
        exact own0 m d a hd hm (nf a z)
      rcases wi with ⟨m, hm, sm⟩ | ⟨d, hd⟩
      · rcases wj with ⟨m', hm', sm'⟩ | ⟨d', hd'⟩
        · obtain ⟨d1, hd1⟩ := ownedB_get lo (lent_mem.mpr ⟨i, hm⟩)
          obtain ⟨d2, hd2⟩ := ownedB_get lo (lent_mem.mpr ⟨j, hm'⟩)
          have em : m = m' := S.ne m m' d1 d2 a hd1 hd2 sm sm'
          subst em
          -- one name stands once
          have once : ∀ (l : List MA), (lentOf l).Nodup → ∀ {i j : Nat}, l[i]? = some (.own m) → l[j]? = some (.own m) → i = j := by
            intro l
            induction l with
            | nil => intro _ i j h; simp at h
            | cons z r ih =>
              intro nd i j h1 h2
              cases i with
              | zero =>
                cases h1
                cases j with
                | zero => rfl
                | succ j => exact absurd (lent_mem.mpr ⟨j, by simpa using h2⟩) (List.nodup_cons.mp nd).1
              | succ i =>
                cases j with
                | zero => cases h2; exact absurd (lent_mem.mpr ⟨i, by simpa using h1⟩) (List.nodup_cons.mp nd).1
                | succ j =>
                  have nd' : (lentOf r).Nodup := by
                    cases z with
                    | val _ => exact nd
                    | new _ => exact nd
                    | own _ => exact (List.nodup_cons.mp nd).2
                  exact congrArg (· + 1) (ih nd' (by simpa using h1) (by simpa using h2))
          exact once l ln hm hm'
        · exact absurd (news_at rs hd' vj) (oldNe m ⟨i, hm⟩ sm)
      · rcases wj with ⟨m', hm', sm'⟩ | ⟨d', hd'⟩
        · exact absurd (news_at rs hd vi) (oldNe m' ⟨j, hm'⟩ sm')
        · exact news_inj rs nd hd hd' vi vj
    · cases hF : F (dsOf e l) with
      | bad => rw [hF] at p; exact p.elim
      | exc c xs =>
        rw [hF] at p
        exact fun cls o H' s ix => p cls o σ _ G1 H' S2 s ix
      | ok rc =>
        obtain ⟨r, cs⟩ := rc
        rw [hF] at p
        dsimp only at p ⊢
        by_cases hl : cs.length = bs.length
        · rw [if_pos hl] at p
          intro H' G' x back v rv
          have S3 := S2.step x
          have cl : cs.length = (posOf 0 l).length := by rw [hl, hp]
          refine hQ r _ v H' G' x.gg (StOk.giveB (lentOf l) (backOf l cs) ln (back_len cl) S3 fun m i c hi hcm => ?_) rv p
          obtain ⟨q, m', a1, a2, a3⟩ := back_at (s := 0) cl hi hcm
          rw [Nat.zero_add] at a2
          rw [hp] at a2
          obtain ⟨b, b1, b2, b3, b4⟩ := back m' q c a2 a3
          have hil : i ∈ lentOf l := List.mem_of_getElem? hi
          obtain ⟨d, a, q1, q2, q3, q4, q5⟩ := ownOf hil
          have eb : b = a := by
            obtain ⟨v', h1, h2⟩ := rs.at a1
            have h2 : σ[i]? = some (some v') := h2
            rw [q2] at h2; cases h2
            have b1 : addrAt l vs q = some b := b1
            unfold addrAt at b1
            rw [a1, h1] at b1
            cases b1; rfl
          subst eb
          refine ⟨b, q2, q3, b3, b4, fun b' hb' => ?_, fun j d' hj hd' hσ => ?_, fun j hj hji hσ => ?_⟩
          · have := S.pn i b' d hb' q1
            rw [q2] at this; cases this; rfl
          · exact hj (by rw [S.ne j i d' d b hd' q1 hσ q2]; exact hil)
          · obtain ⟨d', hd'⟩ := ownedB_get lo hj
            exact hji (S.ne j i d' d b hd' q1 hσ q2)
        · rw [if_neg hl] at p; exact p.elim
  · rw [if_neg hc] at p; exact p.elim
theorem callM_step {n : Nat} {bs : List Nat} {F : List D → Res (D × List D)} {fs : Env → Res (List MA)} {k : D → Env → Out} {σ : L2.St} {e : Env} {H G : Hp} {Z : Ends} {Q : VK} (hn : MLen fs n) (S : StOk X.K H0 G0 σ e H G) (p : SPost X.K X.mg W H0 G0 (callM al fs bs F k e) Z)
    (hQ : ∀ r e' v H' G', StOk X.K H0 G0 σ e' H' G' → Rep X.K G' r v → SPost X.K X.mg W H0 G0 (k r e') Z → Q v H') :
    LockT (fun H => tM X.K X.mg W (fun i => i ∈ al) fs σ H (fun vs H1 => spM X.K X.mg n bs F vs H1 Q (fun c o H' => W c o σ H'))) H :=
  (S.exp al).imp fun H ⟨GX, GA, SX, E, nxt⟩ => by
    refine ⟨e, GA, E, ?_⟩
    unfold callM sE at p
    cases hr : fs e with
    | exc c xs =>
      rw [hr] at p
      exact fun cls o H' s ix => p cls o σ H GA H' (nxt H GA (Ext.refl E.sub)) s ix
    | bad => rw [hr] at p; exact p.elim
    | ok l =>
      rw [hr] at p
      intro H1 G1 x1 vs rs nf nd
      refine callM_args (Hs := H) (hn e l hr) (nxt H1 G1 x1) SX.ext.hh rs nf nd (fun i d a h1 h2 => ?_) p fun r e' v H' G' _ => hQ r e' v H' G'
      obtain ⟨b, q1, _, _, q4⟩ := SX.ow i d (fz_fzD_own h1)
      rw [h2] at q1; cases q1
      exact q4.is
/-- x = f(..) -/
def sSetM (al : List Nat) (i : Nat) (bs : List Nat) (F : List D → Res (D × List D)) (fs : Env → Res (List MA)) : Env → Out := callM al fs bs F fun r e => .nx (e.set i (some (r, false)))
theorem ds_setM {i k : Nat} {x g : Str} {ps : List Str} {bs : List Nat} {F : List D → Res (D × List D)} {fs : Env → Res (List MA)} {a : Expr} {es : List Expr} {p p2 pc : Pos} (hN : X.N.Nodup) (hi : X.N[i]? = some x) (hx : Loc X.env.scope x)
    (c : CallOkM X.prog X.w X.K X.mg X.base k g ps bs F) (hr : Room k X.A) (hg : Gl X g) (tk : Takes X W) (ha : DM X W (fun i => i ∈ al) (a :: es) fs) (hl : MLen fs ps.length)
    (hdb : (g == ("__debug__" : Str)) = false := by decide) (he : starEach (a :: es) X.env = (false, eval a X.env) :: starEach es X.env := by rfl) (hpl : (backTo pc (starEach es X.env)).any (·.1) = false := by rfl)
    (hs : swapsWith (.Call (.Name g p) (a :: es) [] pc) (some (.Name x p2)) pos.line X.env = pure false := by rfl)
    (hf : X.fn x = true ∨ X.env.scope.names.lookup x = some .local := by first | exact .inl rfl | exact .inr rfl | assumption) :
    DS X W H0 G0 (.Assign [.Name x p2] (.Call (.Name g p) (a :: es) [] pc) pos) (sSetM al i bs F fs) := by
  obtain ⟨f, fd, hm, hk, hb, hF⟩ := c.ok
  exact (ps_set hN hi hx (pe_callS hF hr hg hm hk hb (fun σ => passAt tk σ) ha hdb he hpl) hs hf).lk fun Z σ H ⟨e, G, S, p⟩ =>
    callM_step hl S p fun r e' v H' G' S' rv q => q _ H' G' (S'.set i rv)
end
end DL

/-! defs that are lent things and call themselves; a, b = f(..) of such a def -/
namespace DL
open PySem PySem.Spec PyProof.Rows L2
section
variable {X : Cx} {W : WX} {H0 : Bas} {G0 : Hp} {al : List Nat} {pos : Pos}
end
end DL

/-! d.update(e) of dicts with number or text keys; statements that are never reached -/
namespace DL
open PySem PySem.Spec PyProof.Rows L2
section
variable {X : Cx}
end
section
variable {X : Cx} {W : WX} {H0 : Bas} {G0 : Hp} {al : List Nat} {ex : Expr} {es : List Expr} {pos apos cpos p1 p2 : Pos}
end
end DL

/-! a text walked, sign by sign -/
namespace DL
open PySem PySem.Spec PyProof.Rows L2
section
variable {X : Cx} {W : WX} {A : Nat → Prop} {ex : Expr}
end
/-! a list, a tuple or a text -/
section
variable {X : Cx} {W : WX} {A : Nat → Prop} {ex : Expr}
end
end DL

namespace DL
open PySem PySem.Spec PyProof.Rows L2
open PySem.Builtin.Int (intBits)

/-- a bound that range takes -/
def Rg (n : Int) : Prop := -(2 ^ 62) ≤ n ∧ n < 2 ^ 62
theorem Rg.of {n : Int} (h : -1000000000 ≤ n) (k : n ≤ 1000000000) : Rg n := ⟨by omega, by omega⟩
open Classical in
noncomputable def range1D : D → Res (List D) := fun d => match d with
  | .int n => if Rg n then .ok (rangeD 0 n) else .bad
  | _ => .bad
open Classical in
noncomputable def range2D : D → D → Res (List D) := fun d d2 => match d, d2 with
  | .int m, .int n => if Rg m ∧ Rg n then .ok (rangeD m n) else .bad
  | _, _ => .bad
@[simp] theorem range1D_int (n : Int) (h : Rg n) : range1D (.int n) = .ok (rangeD 0 n) := if_pos h
@[simp] theorem range2D_int (m n : Int) (h : Rg m) (k : Rg n) : range2D (.int m) (.int n) = .ok (rangeD m n) := if_pos ⟨h, k⟩
theorem iRange1_is (f : DL.Env → Res D) (e : DL.Env) : iRange1 f e = (f e).bind range1D := by
  unfold iRange1
  congr 1
  funext d
  cases d with
  | int n =>
    dsimp only [range1D]
    by_cases h : Rg n
    · rw [if_pos (show -(2 ^ 62) ≤ n ∧ n < 2 ^ 62 from h), if_pos h]
    · rw [if_neg (show ¬ (-(2 ^ 62) ≤ n ∧ n < 2 ^ 62) from h), if_neg h]
  | _ => rfl
theorem iRange2_is (f g : DL.Env → Res D) (e : DL.Env) : iRange2 f g e = (f e).bind fun d => (g e).bind fun d2 => range2D d d2 := by
  unfold iRange2
  congr 1
  funext d
  congr 1
  funext d2
  cases d with
  | int m =>
    cases d2 with
    | int n =>
      dsimp only [range2D]
      by_cases h : Rg m ∧ Rg n
      · rw [if_pos h, if_pos ⟨h.1.1, h.1.2, h.2.1, h.2.2⟩]
      · rw [if_neg h, if_neg fun z => h ⟨⟨z.1, z.2.1⟩, z.2.2.1, z.2.2.2⟩]
    | _ => rfl
  | _ => rfl
/-! ### a body's reckoning, step by step -/
section
variable (al : List Nat) (i : Nat) (e : DL.Env) (f fa fb fc : DL.Env → Res D) (ft fu : DL.Env → Res Bool) (g h : DL.Env → Out) (fs : DL.Env → Res (List D)) (d : D) (ds : List D) (op : D → D → Res D) (op1 : D → Res D)
@[simp] theorem eVarS_app : eVarS i e = (match e[i]? with | some (some (d, false)) => .ok d | _ => .bad) := Eq.trans rfl rfl
@[simp] theorem eVar_app : eVar i e = (match e[i]? with | some (some (d, _)) => .ok d | _ => .bad) := Eq.trans rfl rfl
@[simp] theorem eC_app : eC d e = .ok d := Eq.trans rfl rfl
@[simp] theorem eOp_app : eOp op fa fb e = (fa e).bind fun x => (fb e).bind fun y => op x y := Eq.trans rfl rfl
@[simp] theorem e1_app : e1 op1 f e = (f e).bind op1 := Eq.trans rfl rfl
@[simp] theorem eNeg_app : eNeg f e = (f e).bind fun x => (match x with | .int i => .ok (.int (-i)) | _ => .bad) := Eq.trans rfl rfl
@[simp] theorem eTup_app : eTup fs e = (fs e).bind fun ds => .ok (.tup ds) := Eq.trans rfl rfl
@[simp] theorem eLst_app : eLst fs e = (fs e).bind fun ds => .ok (.lst ds) := Eq.trans rfl rfl
@[simp] theorem aNil_app : aNil e = .ok [] := Eq.trans rfl rfl
@[simp] theorem aCons_app : aCons f fs e = (f e).bind fun d => (fs e).bind fun ds => .ok (d :: ds) := Eq.trans rfl rfl
@[simp] theorem eCall_app (F : List D → Res D) : eCall F fs e = (fs e).bind F := Eq.trans rfl rfl
@[simp] theorem eAnd_app : eAnd fa fb e = (fa e).bind fun x => (D.asB x).bind fun b => if b = true then fb e else .ok (.bl false) := Eq.trans rfl rfl
@[simp] theorem eOr_app : eOr fa fb e = (fa e).bind fun x => (D.asB x).bind fun b => if b = true then .ok (.bl true) else fb e := Eq.trans rfl rfl
@[simp] theorem eNot_app : eNot f e = (f e).bind fun x => (D.asB x).bind fun b => .ok (.bl (!b)) := Eq.trans rfl rfl
@[simp] theorem eIf_app : eIf ft fa fb e = (ft e).bind fun b => if b = true then fa e else fb e := Eq.trans rfl rfl
@[simp] theorem bTest_app : bTest op fa fb e = (fa e).bind fun x => (fb e).bind fun y => (op x y).bind D.asB := Eq.trans rfl rfl
@[simp] theorem bTruth_app : bTruth f e = (f e).bind D.truth := Eq.trans rfl rfl
@[simp] theorem bAnd_app : bAnd ft fu e = (ft e).bind fun b => if b = true then fu e else .ok false := Eq.trans rfl rfl
@[simp] theorem bOr_app : bOr ft fu e = (ft e).bind fun b => if b = true then .ok true else fu e := Eq.trans rfl rfl
@[simp] theorem bNot_app : bNot ft e = (ft e).bind fun b => .ok (!b) := Eq.trans rfl rfl
@[simp] theorem bVal_app : bVal f e = (f e).bind D.asB := Eq.trans rfl rfl
@[simp] theorem oNone_app : oNone e = .ok none := Eq.trans rfl rfl
@[simp] theorem oSome_app : oSome f e = (f e).bind fun d => (match d with | .int i => .ok (some i) | _ => .bad) := Eq.trans rfl rfl
@[simp] theorem eCut_app (fl fh : DL.Env → Res (Option Int)) : eCut f fl fh e = (f e).bind fun d => (fl e).bind fun lo => (fh e).bind fun hi => dCut lo hi d := Eq.trans rfl rfl
@[simp] theorem iSeq_app : iSeq f e = (f e).bind fun d => (match d with | .lst xs => .ok xs | .tup xs => .ok xs | .con xs => .ok xs | _ => .bad) := Eq.trans rfl rfl
@[simp] theorem iRange1_app : iRange1 f e = (f e).bind range1D := iRange1_is f e
@[simp] theorem iRange2_app : iRange2 fa fb e = (fa e).bind fun d => (fb e).bind fun d2 => range2D d d2 := iRange2_is fa fb e
@[simp] theorem iRange3_app : iRange3 fa fb fc e = (fa e).bind fun x => (fb e).bind fun y => (fc e).bind fun z => r3D x y z := Eq.trans rfl rfl
@[simp] theorem r3D_int (i j c : Int) : r3D (.int i) (.int j) (.int c) = rg3 i j c := Eq.trans rfl rfl
@[simp] theorem sTry_app (hh : String → Option Bool) : sTry hh g h e = (match g e with | .ex c fs' e' => (match hh c with | some true => noEx (h e') | some false => .ex c fs' e' | none => .bad) | r => r) := Eq.trans rfl rfl
@[simp] theorem sTryAs_app (hh : String → Option Bool) (fs : Addr → String → DL.Env → Out) : sTryAs i hh g fs e = (match g e with | .ex c fs' e' => (match hh c with | some true => if fs' = [] then unif (fun a => clrN i (fs a c (e'.set i (some (.obj (.ref a), false))))) else .bad | some false => .ex c fs' e' | none => .bad) | r => r) := Eq.trans rfl rfl
@[simp] theorem clrN_nx : clrN i (.nx e) = .nx (e.set i none) := Eq.trans rfl rfl
@[simp] theorem clrN_rt : clrN i (.rt d) = .rt d := Eq.trans rfl rfl
@[simp] theorem clrN_ro : clrN i (.ro d) = .ro d := Eq.trans rfl rfl
@[simp] theorem unif_const (r : Out) : (unif fun _ => r) = r := unif_of fun _ => rfl
@[simp] theorem eIsE_app (a : Addr) (o : Option Bool) : eIsE i a o e = (match e[i]? with | some (some (.obj (.ref a'), false)) => if a' = a then (match o with | some b => .ok (.bl b) | none => .bad) else .bad | _ => .bad) := Eq.trans rfl rfl
@[simp] theorem dStr_bl (b : Bool) : dStr (.bl b) = .ok (.str (if b = true then "True" else "False")) := Eq.trans rfl rfl
@[simp] theorem noEx_nx : noEx (.nx e) = .nx e := Eq.trans rfl rfl
@[simp] theorem noEx_rt : noEx (.rt d) = .rt d := Eq.trans rfl rfl
@[simp] theorem noEx_ro : noEx (.ro d) = .ro d := Eq.trans rfl rfl
@[simp] theorem sRetO_app : sRetO i e = (match e[i]? with | some (some (d, true)) => .ro d | some (some (d, false)) => .rt d | _ => .bad) := Eq.trans rfl rfl
@[simp] theorem sRetF_app : sRetF al f e = (match f e with | .ok d => .ro d | .exc c fs => .ex c fs (fz al e) | .bad => .bad) := by unfold sRetF sE; cases f e <;> rfl
@[simp] theorem sSkip_app : sSkip e = .nx e := Eq.trans rfl rfl
@[simp] theorem sBreak_app : sBreak e = .bk e := Eq.trans rfl rfl
@[simp] theorem sCont_app : sCont e = .ct e := Eq.trans rfl rfl
@[simp] theorem sRetN_app : sRetN e = .rt .non := Eq.trans rfl rfl
@[simp] theorem sRaise_app (c : String) : sRaise c e = .ex c [] e := Eq.trans rfl rfl
@[simp] theorem sSeq_app : sSeq g h e = (match g e with | .nx e' => h e' | r => r) := Eq.trans rfl rfl
@[simp] theorem sIf_app : sIf al ft g h e = (match ft e with | .ok b => if b = true then g (fz al e) else h (fz al e) | .exc c fs => .ex c fs (fz al e) | .bad => .bad) := by unfold sIf sE; cases ft e <;> rfl
@[simp] theorem sRet_app : sRet al f e = (match f e with | .ok d => .rt d | .exc c fs => .ex c fs (fz al e) | .bad => .bad) := by unfold sRet sE; cases f e <;> rfl
@[simp] theorem sDrop_app : sDrop al f e = (match f e with | .ok d => .nx (fz al e) | .exc c fs => .ex c fs (fz al e) | .bad => .bad) := by unfold sDrop sE; cases f e <;> rfl
@[simp] theorem sSet_app : sSet al i f e = (match f e with | .ok d => .nx ((fz al e).set i (some (d, false))) | .exc c fs => .ex c fs (fz al e) | .bad => .bad) := by unfold sSet sE; cases f e <;> rfl
@[simp] theorem sSetF_app : sSetF al i f e = (match f e with | .ok d => .nx ((fz al e).set i (some (d, true))) | .exc c fs => .ex c fs (fz al e) | .bad => .bad) := by unfold sSetF sE; cases f e <;> rfl
@[simp] theorem sAsg_app (p : Pat) : sAsg al p f e = (match f e with | .ok d => (match p.bind d (fz al e) with | .ok e' => .nx e' | _ => .bad) | .exc c fs => .ex c fs (fz al e) | .bad => .bad) := by unfold sAsg sE; cases f e <;> rfl
@[simp] theorem sPar_app (j : Nat) : sPar al i j fs e = (match fs e with | .ok ds => (match ds with | [x, y] => .nx (((fz al e).set i (some (x, false))).set j (some (y, false))) | _ => .bad) | .exc c fs => .ex c fs (fz al e) | .bad => .bad) := by unfold sPar sE; cases fs e <;> rfl
@[simp] theorem sFor_app (p : Pat) : sFor al p fs g e = (match fs e with | .ok ds => turns p g ds (fz al e) | .exc c fs => .ex c fs (fz al e) | .bad => .bad) := by unfold sFor sE; cases fs e <;> rfl
@[simp] theorem fz_cons (r : List Nat) : fz (i :: r) e = fz r (unown i e) := Eq.trans rfl rfl
@[simp] theorem unown_app : unown i e = (match e[i]? with | some (some (d, true)) => e.set i (some (d, false)) | _ => e) := Eq.trans rfl rfl
@[simp] theorem bindnm_app : Pat.bind (.nm i) d e = .ok (e.set i (some (d, false))) := Eq.trans rfl rfl
@[simp] theorem bindtp_app (ps : List Pat) : Pat.bind (.tp ps) (.tup ds) e = Pat.binds ps ds e := Eq.trans rfl rfl
@[simp] theorem binds_nil : Pat.binds [] [] e = .ok e := Eq.trans rfl rfl
@[simp] theorem binds_cons (p : Pat) (ps : List Pat) : Pat.binds (p :: ps) (d :: ds) e = (Pat.bind p d e).bind fun e' => Pat.binds ps ds e' := Eq.trans rfl rfl
@[simp] theorem asB_bl (b : Bool) : D.asB (.bl b) = .ok b := Eq.trans rfl rfl
@[simp] theorem dLt_int (i j : Int) : dLt (.int i) (.int j) = .ok (.bl (decide (i < j))) := Eq.trans rfl rfl
@[simp] theorem dLe_int (i j : Int) : dLe (.int i) (.int j) = .ok (.bl (decide (i ≤ j))) := Eq.trans rfl rfl
@[simp] theorem dGt_int (i j : Int) : dGt (.int i) (.int j) = .ok (.bl (decide (j < i))) := Eq.trans rfl rfl
@[simp] theorem dGe_int (i j : Int) : dGe (.int i) (.int j) = .ok (.bl (decide (j ≤ i))) := Eq.trans rfl rfl
@[simp] theorem dAdd_int (i j : Int) : dAdd (.int i) (.int j) = .ok (.int (i + j)) := Eq.trans rfl rfl
@[simp] theorem dSub_int (i j : Int) : dSub (.int i) (.int j) = .ok (.int (i - j)) := Eq.trans rfl rfl
@[simp] theorem dMod_int (i j : Int) : dMod (.int i) (.int j) = (if j ≠ 0 then .ok (.int (i.fmod j)) else .bad) := Eq.trans rfl rfl
@[simp] theorem dAbs_int (i : Int) : dAbs (.int i) = .ok (.int (i.natAbs : Int)) := by
  show Res.ok (D.int (if i < 0 then -i else i)) = _
  congr 2
  split <;> omega
@[simp] theorem dLen_lst : dLen (.lst ds) = .ok (.int ds.length) := Eq.trans rfl rfl
@[simp] theorem dLen_tup : dLen (.tup ds) = .ok (.int ds.length) := Eq.trans rfl rfl
@[simp] theorem dLen_con : dLen (.con ds) = .ok (.int ds.length) := Eq.trans rfl rfl
@[simp] theorem dLen_dct (t : Bool) (kvs : List (D × D)) : dLen (.dct t kvs) = .ok (.int kvs.length) := Eq.trans rfl rfl
@[simp] theorem isInt_int (i : Int) : isInt (.int i) = .ok (.bl true) := Eq.trans rfl rfl
@[simp] theorem isBool_int (i : Int) : isBool (.int i) = .ok (.bl false) := Eq.trans rfl rfl
@[simp] theorem isTup_tup : isTup (.tup ds) = .ok (.bl true) := Eq.trans rfl rfl
@[simp] theorem dTuple_lst : dTuple (.lst ds) = .ok (.tup ds) := Eq.trans rfl rfl
@[simp] theorem dTuple_tup : dTuple (.tup ds) = .ok (.tup ds) := Eq.trans rfl rfl
@[simp] theorem dList_lst : dList (.lst ds) = .ok (.lst ds) := Eq.trans rfl rfl
@[simp] theorem dList_tup : dList (.tup ds) = .ok (.lst ds) := Eq.trans rfl rfl
@[simp] theorem dMax_int (i j : Int) : dMax (.int i) (.int j) = .ok (.int (if i < j then j else i)) := Eq.trans rfl rfl
@[simp] theorem dMin_int (i j : Int) : dMin (.int i) (.int j) = .ok (.int (if j < i then j else i)) := Eq.trans rfl rfl
@[simp] theorem sMut_app (gm : List D → List D → Option (List D)) : sMut al i gm fs e = ownL i (fz al e) (fun xs => sE al fs (fun ds e' => match gm xs ds with
    | some ys => .nx (e'.set i (some (.lst ys, true)))
    | none => .bad) e) := Eq.trans rfl rfl
end
@[simp] theorem ownL_app (i : Nat) (e : DL.Env) (k : List D → Out) : ownL i e k = (match e[i]? with | some (some (.lst xs, true)) => k xs | _ => .bad) := Eq.trans rfl rfl
@[simp] theorem sE_app {α : Type} (al : List Nat) (e : DL.Env) (fa : DL.Env → Res α) (k : α → DL.Env → Out) : sE al fa k e = (match fa e with | .ok a => k a (fz al e) | .exc c fs => .ex c fs (fz al e) | .bad => .bad) := Eq.trans rfl rfl
/-! equality -/
@[simp] theorem dEq_int (i j : Int) : dEq (.int i) (.int j) = .ok (.bl (decide (i = j))) := by
  simp [dEq, D.pl, D.beq, D.py, PyData.eqv]
  exact Bool.eq_iff_iff.mpr (by simp)
@[simp] theorem dNe_int (i j : Int) : dNe (.int i) (.int j) = .ok (.bl (!decide (i = j))) := by
  simp [dNe, D.pl, D.beq, D.py, PyData.eqv]
  exact Bool.eq_iff_iff.mpr (by simp)
@[simp] theorem dAdd_lst (a b : List D) (h : a.length + b.length ≤ sizeLine) : dAdd (.lst a) (.lst b) = .ok (.lst (a ++ b)) := if_pos h
@[simp] theorem dIx_tup0 (a : D) (r : List D) : dIx (.tup (a :: r)) (.int 0) = .ok a := by simp [dIx, atI, ixN]
@[simp] theorem dIx_tup1 (a b : D) (r : List D) : dIx (.tup (a :: b :: r)) (.int 1) = .ok b := by
  have : (1 : Int) < r.length + 1 + 1 := by omega
  simp [dIx, atI, ixN, this]
theorem ixN_of {n : Nat} {i : Int} (h : -(n : Int) ≤ i) (k : i < n) : ∃ j : Nat, ixN n i = some j ∧ j < n := by
  unfold ixN
  by_cases c : 0 ≤ i
  · exact ⟨i.toNat, by rw [if_pos c, if_pos k], by omega⟩
  · exact ⟨(i + n).toNat, by rw [if_neg c, if_pos h], by omega⟩
mutual
theorem eqv_self : ∀ (d : D) (n : Nat), d.pl n = true → PyData.eqv d.py d.py = true
  | .non, _, _ => rfl
  | .bl b, _, _ => by simp [D.py, PyData.eqv]
  | .int i, _, _ => by simp [D.py, PyData.eqv]
  | .str x, _, _ => by simp [D.py, PyData.eqv]
  | .obj _, _, h => by simp [D.pl] at h
  | .dct _ _, _, h => by simp [D.pl] at h
  | .con xs, 0, h => by simp [D.pl] at h
  | .con xs, n + 1, h => by
    simp [D.py, PyData.eqv]
    exact eqvs_self xs n (by simpa [D.pl] using h)
  | .tup xs, 0, h => by simp [D.pl] at h
  | .lst xs, 0, h => by simp [D.pl] at h
  | .tup xs, n + 1, h => by
    simp [D.py, PyData.eqv]
    exact eqvs_self xs n (by simpa [D.pl] using h)
  | .lst xs, n + 1, h => by
    simp [D.py, PyData.eqv]
    exact eqvs_self xs n (by simpa [D.pl] using h)
theorem eqvs_self : ∀ (ds : List D) (n : Nat), D.pls ds n = true → PyData.eqvAll (D.pys ds) (D.pys ds) = true
  | [], _, _ => rfl
  | d :: r, n, h => by
    have h' : d.pl n = true ∧ D.pls r n = true := by simpa [D.pls] using h
    simp [D.pys, PyData.eqvAll]
    exact ⟨eqv_self d n h'.1, eqvs_self r n h'.2⟩
end
theorem dEq_self {d : D} (h : d.pl 60 = true) : dEq d d = .ok (.bl true) := by
  cases d with
  | str x => simp [dEq]
  | _ => simp only [dEq]; rw [if_pos ⟨h, h⟩, D.beq, eqv_self _ 60 h]
theorem dNe_self {d : D} (h : d.pl 60 = true) : dNe d d = .ok (.bl false) := by
  cases d with
  | str x => simp [dNe]
  | _ => simp only [dNe]; rw [if_pos ⟨h, h⟩, D.beq, eqv_self _ 60 h]; rfl
theorem pls_all {n : Nat} : ∀ {ds : List D}, (∀ d ∈ ds, d.pl n = true) → D.pls ds n = true
  | [], _ => rfl
  | d :: r, h => by
    rw [D.pls, h d List.mem_cons_self, pls_all fun x hx => h x (List.mem_cons_of_mem _ hx)]
    rfl
/-! ### sizes -/
/-- an integer of at most so many bits -/
def Sm (n : Nat) (i : Int) : Prop := i.natAbs < 2 ^ n
theorem Sm.mono {n m : Nat} {i : Int} (h : Sm n i) (k : n ≤ m) : Sm m i := Nat.lt_of_lt_of_le h (Nat.pow_le_pow_right (by decide) k)
theorem Sm.bits {n : Nat} {i : Int} : Sm n i ↔ intBits i ≤ n := by
  unfold Sm intBits
  by_cases h : i = 0
  · subst h; simp; exact Nat.two_pow_pos n
  · have h' : (i == 0) = false := by simpa using h
    rw [h']
    have : i.natAbs ≠ 0 := by omega
    rw [← Nat.log2_lt this]
    exact Iff.rfl
theorem Sm.add {n : Nat} {i j : Int} (h : Sm n i) (k : Sm n j) : Sm (n + 1) (i + j) := by
  unfold Sm at *
  rw [Nat.pow_succ]
  omega
theorem Sm.mul {n m : Nat} {i j : Int} (h : Sm n i) (k : Sm m j) : Sm (n + m) (i * j) := by
  unfold Sm at *
  rw [Int.natAbs_mul, Nat.pow_add]
  exact Nat.mul_lt_mul'' h k
theorem Sm.le {n : Nat} {i j : Int} (h : Sm n i) (k : j.natAbs ≤ i.natAbs) : Sm n j := Nat.lt_of_le_of_lt k h
theorem Sm.lg {n : Nat} {i : Int} (h : Sm n i) (k : n ≤ 8999) : i.natAbs.log2 < 9000 := by
  by_cases z : i.natAbs = 0
  · rw [z]; decide
  · rw [Nat.log2_lt z]
    exact Nat.lt_of_lt_of_le h (Nat.pow_le_pow_right (by decide) (by omega))
theorem Sm.two {n m : Nat} {i j : Int} (h : Sm n i) (k : Sm m j) (l : n + m ≤ big) : intBits i + intBits j ≤ big := Nat.le_trans (Nat.add_le_add (Sm.bits.mp h) (Sm.bits.mp k)) l
theorem dDiv_int {i j : Int} (h : j ≠ 0) (k : j.natAbs.log2 < 9000) : dDiv (.int i) (.int j) = .ok (.int (i.fdiv j)) := if_pos ⟨h, k⟩
@[simp] theorem dDiv_lit (i j : Int) (h : 0 < j) (k : j < 18446744073709551616) : dDiv (.int i) (.int j) = .ok (.int (i / j)) := by
  rw [dDiv_int (by omega) (Sm.lg (n := 64) (by unfold Sm; omega) (by decide)), Int.fdiv_eq_ediv_of_nonneg _ (by omega)]
@[simp high] theorem dMod_lit (i j : Int) (h : 0 < j) : dMod (.int i) (.int j) = .ok (.int (i % j)) := by
  rw [dMod_int, if_pos (by omega), Int.fmod_eq_emod_of_nonneg _ (by omega)]
theorem dPow_of {i j : Int} (h : 0 ≤ j ∧ (intBits i : Int) * j ≤ 2 ^ 27) : dPow (.int i) (.int j) = .ok (.int (i ^ j.toNat)) := if_pos h
@[simp] theorem pow_10_60 : dPow (.int 10) (.int 60) = .ok (.int (10 ^ 60)) := dPow_of (by decide +kernel)
@[simp] theorem pow_10_18 : dPow (.int 10) (.int 18) = .ok (.int (10 ^ 18)) := dPow_of (by decide +kernel)
@[simp] theorem pow_10_9 : dPow (.int 10) (.int 9) = .ok (.int (10 ^ 9)) := dPow_of (by decide +kernel)
@[simp] theorem pow_10_10 : dPow (.int 10) (.int 10) = .ok (.int (10 ^ 10)) := dPow_of (by decide +kernel)
/-! ### loops -/
@[simp] theorem isInt_bl (b : Bool) : isInt (.bl b) = .ok (.bl true) := Eq.trans rfl rfl
@[simp] theorem isInt_tup (ds : List D) : isInt (.tup ds) = .ok (.bl false) := Eq.trans rfl rfl
@[simp] theorem isInt_str (x : Str) : isInt (.str x) = .ok (.bl false) := Eq.trans rfl rfl
@[simp] theorem isInt_lst (ds : List D) : isInt (.lst ds) = .ok (.bl false) := Eq.trans rfl rfl
@[simp] theorem isInt_non  : isInt .non = .ok (.bl false) := Eq.trans rfl rfl
@[simp] theorem isBool_bl (b : Bool) : isBool (.bl b) = .ok (.bl true) := Eq.trans rfl rfl
@[simp] theorem isBool_tup (ds : List D) : isBool (.tup ds) = .ok (.bl false) := Eq.trans rfl rfl
@[simp] theorem isBool_str (x : Str) : isBool (.str x) = .ok (.bl false) := Eq.trans rfl rfl
@[simp] theorem isBool_lst (ds : List D) : isBool (.lst ds) = .ok (.bl false) := Eq.trans rfl rfl
@[simp] theorem isBool_non  : isBool .non = .ok (.bl false) := Eq.trans rfl rfl
@[simp] theorem isTup_int (i : Int) : isTup (.int i) = .ok (.bl false) := Eq.trans rfl rfl
@[simp] theorem isTup_bl (b : Bool) : isTup (.bl b) = .ok (.bl false) := Eq.trans rfl rfl
@[simp] theorem isTup_str (x : Str) : isTup (.str x) = .ok (.bl false) := Eq.trans rfl rfl
@[simp] theorem isTup_lst (ds : List D) : isTup (.lst ds) = .ok (.bl false) := Eq.trans rfl rfl
@[simp] theorem isTup_non  : isTup .non = .ok (.bl false) := Eq.trans rfl rfl
@[simp] theorem isStr_int (i : Int) : isStr (.int i) = .ok (.bl false) := Eq.trans rfl rfl
@[simp] theorem isStr_bl (b : Bool) : isStr (.bl b) = .ok (.bl false) := Eq.trans rfl rfl
@[simp] theorem isStr_tup (ds : List D) : isStr (.tup ds) = .ok (.bl false) := Eq.trans rfl rfl
@[simp] theorem isStr_str (x : Str) : isStr (.str x) = .ok (.bl true) := Eq.trans rfl rfl
@[simp] theorem isStr_lst (ds : List D) : isStr (.lst ds) = .ok (.bl false) := Eq.trans rfl rfl
@[simp] theorem isStr_non  : isStr .non = .ok (.bl false) := Eq.trans rfl rfl
@[simp] theorem isList_int (i : Int) : isList (.int i) = .ok (.bl false) := Eq.trans rfl rfl
@[simp] theorem isList_bl (b : Bool) : isList (.bl b) = .ok (.bl false) := Eq.trans rfl rfl
@[simp] theorem isList_tup (ds : List D) : isList (.tup ds) = .ok (.bl false) := Eq.trans rfl rfl
@[simp] theorem isList_str (x : Str) : isList (.str x) = .ok (.bl false) := Eq.trans rfl rfl
@[simp] theorem isList_lst (ds : List D) : isList (.lst ds) = .ok (.bl true) := Eq.trans rfl rfl
@[simp] theorem isList_non  : isList .non = .ok (.bl false) := Eq.trans rfl rfl
@[simp] theorem dIx_tup2 (a b c : D) (r : List D) : dIx (.tup (a :: b :: c :: r)) (.int 2) = .ok c := by
  have : (2 : Int) < r.length + 1 + 1 + 1 := by omega
  simp [dIx, atI, ixN, this]
@[simp] theorem dIx_tup3 (a b c d : D) (r : List D) : dIx (.tup (a :: b :: c :: d :: r)) (.int 3) = .ok d := by
  have : (3 : Int) < r.length + 1 + 1 + 1 + 1 := by omega
  simp [dIx, atI, ixN, this]
@[simp] theorem dEq_str (a b : Str) : dEq (.str a) (.str b) = .ok (.bl (decide (a = b))) := Eq.trans rfl rfl
@[simp] theorem dNe_str (a b : Str) : dNe (.str a) (.str b) = .ok (.bl (!decide (a = b))) := Eq.trans rfl rfl
@[simp] theorem dEq_bl (a b : Bool) : dEq (.bl a) (.bl b) = .ok (.bl (decide (a = b))) := by
  simp [dEq, D.pl, D.beq, D.py, PyData.eqv]
  cases a <;> cases b <;> rfl
@[simp] theorem dNe_bl (a b : Bool) : dNe (.bl a) (.bl b) = .ok (.bl (!decide (a = b))) := by
  simp [dNe, D.pl, D.beq, D.py, PyData.eqv]
  cases a <;> cases b <;> rfl
@[simp] theorem truth_bl (b : Bool) : D.truth (.bl b) = .ok b := Eq.trans rfl rfl
@[simp] theorem truth_int (i : Int) : D.truth (.int i) = .ok (decide (i ≠ 0)) := by
  show Res.ok (i != 0) = _
  congr 1
  exact Bool.eq_iff_iff.mpr (by simp)
end DL

namespace DL
open PySem PySem.Spec PyProof.Rows L2
open PySem.Builtin.Int (intBits)
/-! ### Euclid's loop over slots 0, 1, 2 -/
/-- the share a rational number is -/
def shr (x : Rat) : D := .tup [.int x.num, .int x.den]
theorem divInt_parts (a : Int) (b : Nat) (hb : b ≠ 0) : (Rat.divInt a b).num = a.fdiv (Nat.gcd b a.natAbs : Nat) ∧ ((Rat.divInt a b).den : Int) = (b : Int).fdiv (Nat.gcd b a.natAbs : Nat) := by
  have e : Rat.divInt a b = Rat.normalize a b hb := by
    rw [Rat.normalize_eq_mkRat]; rfl
  have : (0 : Int) ≤ (Nat.gcd b a.natAbs : Nat) := Int.natCast_nonneg _
  rw [Int.fdiv_eq_ediv_of_nonneg _ this, Int.fdiv_eq_ediv_of_nonneg _ this, Nat.gcd_comm, e, Rat.normalize_eq hb]
  exact ⟨rfl, by simp⟩
end DL

namespace DL
open PySem PySem.Spec PyProof.Rows L2
open PySem.Builtin.Int (intBits)
/-! ### shares -/
@[simp] theorem shr_0 (x : Rat) : dIx (shr x) (.int 0) = .ok (.int x.num) := by simp [shr]
@[simp] theorem shr_1 (x : Rat) : dIx (shr x) (.int 1) = .ok (.int x.den) := by simp [shr]
/-- sizes of a share -/
def SmR (n m : Nat) (x : Rat) : Prop := Sm n x.num ∧ Sm m (x.den : Int)
theorem SmR.mono {n m n' m' : Nat} {x : Rat} (h : SmR n m x) (a : n ≤ n') (b : m ≤ m') : SmR n' m' x := ⟨h.1.mono a, h.2.mono b⟩
theorem divInt_small {a : Int} {b : Nat} (hb : b ≠ 0) : (Rat.divInt a b).num.natAbs ≤ a.natAbs ∧ (Rat.divInt a b).den ≤ b := by
  obtain ⟨p1, p2⟩ := divInt_parts a b hb
  have hg : (0 : Int) ≤ (Nat.gcd b a.natAbs : Nat) := Int.natCast_nonneg _
  rw [Int.fdiv_eq_ediv_of_nonneg _ hg] at p1 p2
  constructor
  · rw [p1, Int.natAbs_ediv_of_dvd (Int.ofNat_dvd_left.mpr (Nat.gcd_dvd_right _ _))]
    simpa using Nat.div_le_self _ _
  · have : ((b : Int) / (Nat.gcd b a.natAbs : Nat)) = ((b / Nat.gcd b a.natAbs : Nat) : Int) := by simp
    rw [this] at p2
    have := Nat.div_le_self b (Nat.gcd b a.natAbs)
    omega
theorem SmR.divInt {n m : Nat} {a : Int} {b : Nat} (hb : b ≠ 0) (h : Sm n a) (k : Sm m (b : Int)) : SmR n m (Rat.divInt a b) := by
  obtain ⟨p, q⟩ := divInt_small (a := a) hb
  exact ⟨h.le p, k.le (by simpa using q)⟩
theorem divInt_add (x y : Rat) : Rat.divInt (x.num * y.den + y.num * x.den) ((x.den * y.den : Nat) : Int) = x + y := by
  have hx : (x.den : Int) ≠ 0 := by have := x.den_nz; omega
  have hy : (y.den : Int) ≠ 0 := by have := y.den_nz; omega
  have := Rat.divInt_add_divInt x.num y.num hx hy
  rw [Rat.num_divInt_den, Rat.num_divInt_den] at this
  rw [this, Int.natCast_mul]
theorem divInt_mul (x y : Rat) : Rat.divInt (x.num * y.num) ((x.den * y.den : Nat) : Int) = x * y := by
  have := Rat.divInt_mul_divInt x.num y.num (d₁ := x.den) (d₂ := y.den)
  rw [Rat.num_divInt_den, Rat.num_divInt_den] at this
  rw [this, Int.natCast_mul]
theorem den_mul_ne (x y : Rat) : x.den * y.den ≠ 0 := Nat.mul_ne_zero x.den_nz y.den_nz
theorem SmR.add {n m n' m' k : Nat} {x y : Rat} (h : SmR n m x) (q : SmR n' m' y) (a : n + m' ≤ k) (b : n' + m ≤ k) : SmR (k + 1) (m + m') (x + y) := by
  rw [← divInt_add]
  refine SmR.divInt (den_mul_ne x y) (((h.1.mul q.2).mono a).add ((q.1.mul h.2).mono b)) ?_
  rw [Int.natCast_mul]
  exact h.2.mul q.2
theorem SmR.mul {n m n' m' : Nat} {x y : Rat} (h : SmR n m x) (q : SmR n' m' y) : SmR (n + n') (m + m') (x * y) := by
  rw [← divInt_mul]
  refine SmR.divInt (den_mul_ne x y) (h.1.mul q.1) ?_
  rw [Int.natCast_mul]
  exact h.2.mul q.2
end DL

namespace DL
open PySem PySem.Spec PyProof.Rows L2
open PySem.Builtin.Int (intBits)
/-! ### powers of a pair by squarings -/
def pr (a b : Int) : D := .tup [.int a, .int b]
@[simp] theorem pr_0 (a b : Int) : dIx (pr a b) (.int 0) = .ok (.int a) := by simp [pr]
@[simp] theorem pr_1 (a b : Int) : dIx (pr a b) (.int 1) = .ok (.int b) := by simp [pr]
end DL

/-! spreads, plainly -/
namespace DL
open PySem PySem.Spec PyProof.Rows L2
open PySem.Builtin.Int (intBits)
@[simp] theorem dIxA_lst (xs : List D) (i : D) : dIxA (.lst xs) i = dIx (.lst xs) i := rfl
@[simp] theorem dIxA_tup (xs : List D) (i : D) : dIxA (.tup xs) i = dIx (.tup xs) i := rfl
@[simp] theorem dIxA_con (xs : List D) (i : D) : dIxA (.con xs) i = dIx (.con xs) i := rfl
@[simp] theorem dIxA_dct (t : Bool) (kvs : List (D × D)) (i : D) : dIxA (.dct t kvs) i = dAt (.dct t kvs) i := rfl
/-- answers: numbers only -/
def ans (k : List Int) : D := .tup (k.map D.int)
theorem ints_inj : ∀ {a b : List Int}, a.map D.int = b.map D.int → a = b
  | [], [], _ => rfl
  | [], _ :: _, h => by cases h
  | _ :: _, [], h => by cases h
  | x :: a, y :: b, h => by
    rw [List.map_cons, List.map_cons, List.cons.injEq] at h
    cases h.1
    rw [ints_inj h.2]
theorem ans_inj {a b : List Int} (h : ans a = ans b) : a = b := ints_inj (by unfold ans at h; injection h)
@[simp] theorem ans_key (k : List Int) : D.keyOk true (ans k) = true := by
  simp [ans, D.keyOk, D.isKey]
def getR (m : List (List Int × Rat)) (k : List Int) : Option Rat := (m.find? fun p => decide (p.1 = k)).map (·.2)
def putR (m : List (List Int × Rat)) (k : List Int) (x : Rat) : List (List Int × Rat) := if (m.any fun p => decide (p.1 = k)) = true then m.map (fun p => if p.1 = k then (p.1, x) else p) else m ++ [(k, x)]
/-- one more pair -/
def stepR (m : List (List Int × Rat)) (p : List Int × Rat) : List (List Int × Rat) := putR m p.1 ((getR m p.1).getD 0 + p.2)
def totR (ps : List (List Int × Rat)) (k : List Int) : Rat := ps.foldl (fun t p => if p.1 = k then t + p.2 else t) 0
theorem any_key {m : List (List Int × Rat)} {k : List Int} : (m.any fun p => decide (p.1 = k)) = true ↔ k ∈ m.map (·.1) := by
  rw [List.any_eq_true, List.mem_map]
  constructor
  · rintro ⟨p, h, e⟩; exact ⟨p, h, by simpa using e⟩
  · rintro ⟨p, h, e⟩; exact ⟨p, h, by simpa using e⟩
theorem put_keys (m : List (List Int × Rat)) (k : List Int) (x : Rat) : (putR m k x).map (·.1) = if k ∈ m.map (·.1) then m.map (·.1) else m.map (·.1) ++ [k] := by
  unfold putR
  by_cases h : k ∈ m.map (·.1)
  · rw [if_pos (any_key.mpr h), if_pos h, List.map_map]
    apply List.map_congr_left
    intro p _
    show (if p.1 = k then (p.1, x) else p).1 = p.1
    split <;> rfl
  · rw [if_neg (fun z => h (any_key.mp z)), if_neg h, List.map_append]; rfl
theorem get_some {m : List (List Int × Rat)} {k : List Int} : (getR m k).isSome = true ↔ k ∈ m.map (·.1) := by
  unfold getR
  rw [Option.isSome_map, List.find?_isSome, List.mem_map]
  constructor
  · rintro ⟨p, h, e⟩; exact ⟨p, h, by simpa using e⟩
  · rintro ⟨p, h, e⟩; exact ⟨p, h, by simpa using e⟩
theorem get_none {m : List (List Int × Rat)} {k : List Int} (h : k ∉ m.map (·.1)) : getR m k = none := by
  cases e : getR m k with
  | none => rfl
  | some x => exact absurd (get_some.mp (by rw [e]; rfl)) h
theorem put_get_self (m : List (List Int × Rat)) (k : List Int) (x : Rat) : getR (putR m k x) k = some x := by
  unfold putR
  split
  · rename_i h
    induction m with
    | nil => simp at h
    | cons p m ih =>
      unfold getR
      rw [List.map_cons, List.find?_cons]
      by_cases hp : p.1 = k
      · simp [hp]
      · simp only [if_neg hp, decide_eq_false hp]
        have h' : (m.any fun p => decide (p.1 = k)) = true := by simpa [hp] using h
        exact ih h'
  · rename_i h
    unfold getR
    rw [List.find?_append]
    have : m.find? (fun p => decide (p.1 = k)) = none := by
      cases e : m.find? (fun p => decide (p.1 = k)) with
      | none => rfl
      | some p =>
        exfalso
        apply h
        rw [List.any_eq_true]
        exact ⟨p, List.mem_of_find?_eq_some e, List.find?_some (p := fun p : List Int × Rat => decide (p.1 = k)) e⟩
    rw [this]
    simp
theorem put_get_ne {m : List (List Int × Rat)} {k j : List Int} (x : Rat) (h : j ≠ k) : getR (putR m k x) j = getR m j := by
  unfold putR
  split
  · induction m with
    | nil => rfl
    | cons p m ih =>
      unfold getR at *
      rw [List.map_cons, List.find?_cons, List.find?_cons]
      by_cases hp : p.1 = k
      · have hj : p.1 ≠ j := fun z => h (by rw [← z, hp])
        simp only [if_pos hp, decide_eq_false hj]
        rename_i hh
        by_cases h3 : (m.any fun p => decide (p.1 = k)) = true
        · exact ih h3
        · have : m.map (fun p => if p.1 = k then (p.1, x) else p) = m := by
            conv => rhs; rw [← List.map_id m]
            apply List.map_congr_left
            intro q hq
            rw [if_neg]
            · rfl
            · intro z
              apply h3
              rw [List.any_eq_true]
              exact ⟨q, hq, by simpa using z⟩
          rw [this]
      · simp only [if_neg hp]
        by_cases hj : p.1 = j
        · simp [hj]
        · simp only [decide_eq_false hj]
          rename_i hh
          exact ih (by simpa [hp] using hh)
  · unfold getR
    rw [List.find?_append]
    cases m.find? (fun p => decide (p.1 = j)) with
    | some p => rfl
    | none => simp [Ne.symm h]
/-- what the sums are after so many pairs -/
structure SumsOf (m ps : List (List Int × Rat)) : Prop where
  nd : (m.map (·.1)).Nodup
  ks : ∀ k, k ∈ m.map (·.1) ↔ k ∈ ps.map (·.1)
  gt : ∀ k, k ∈ ps.map (·.1) → getR m k = some (totR ps k)
  ln : m.length ≤ ps.length
theorem tot_snoc (ps : List (List Int × Rat)) (p : List Int × Rat) (k : List Int) : totR (ps ++ [p]) k = if p.1 = k then totR ps k + p.2 else totR ps k := by
  unfold totR
  rw [List.foldl_append]
  rfl
theorem tot_none {ps : List (List Int × Rat)} {k : List Int} (h : k ∉ ps.map (·.1)) : totR ps k = 0 := by
  unfold totR
  have gen : ∀ (ps : List (List Int × Rat)) (t : Rat), k ∉ ps.map (·.1) → ps.foldl (fun t p => if p.1 = k then t + p.2 else t) t = t := by
    intro ps
    induction ps with
    | nil => intro t _; rfl
    | cons p ps ih =>
      intro t h
      rw [List.map_cons, List.mem_cons] at h
      rw [List.foldl_cons, if_neg (fun z => h (.inl z.symm))]
      exact ih t fun z => h (.inr z)
  exact gen ps 0 h
theorem SumsOf.step {m ps : List (List Int × Rat)} (S : SumsOf m ps) (p : List Int × Rat) : SumsOf (stepR m p) (ps ++ [p]) := by
  have hk := put_keys m p.1 ((getR m p.1).getD 0 + p.2)
  have ht : (getR m p.1).getD 0 = totR ps p.1 := by
    by_cases h : p.1 ∈ ps.map (·.1)
    · rw [S.gt _ h]; rfl
    · rw [get_none (fun z => h ((S.ks _).mp z)), tot_none h]; rfl
  refine ⟨?_, fun k => ?_, fun k h => ?_, ?_⟩
  · unfold stepR
    rw [hk]
    split
    · exact S.nd
    · rename_i h
      rw [List.nodup_append]
      refine ⟨S.nd, by simp, ?_⟩
      intro a ha b hb
      rw [List.mem_singleton] at hb
      subst hb
      intro e
      subst e
      exact h ha
  · unfold stepR
    rw [hk, List.map_append, List.mem_append, ← S.ks k]
    split
    · rename_i h
      constructor
      · exact .inl
      · rintro (z | z)
        · exact z
        · rw [show k = p.1 by simpa using z]; exact h
    · rw [List.mem_append]; rfl
  · rw [tot_snoc]
    unfold stepR
    by_cases e : p.1 = k
    · subst e
      rw [put_get_self, ht, if_pos rfl]
    · rw [put_get_ne _ (Ne.symm e), if_neg e]
      rw [List.map_append, List.mem_append] at h
      rcases h with z | z
      · exact S.gt _ z
      · exact absurd (by simpa using z : k = p.1).symm e
  · have := congrArg List.length hk
    rw [List.length_map] at this
    unfold stepR
    rw [this, List.length_append]
    have l := S.ln
    split
    · rw [List.length_map]; simp; omega
    · rw [List.length_append, List.length_map]; simp; omega
theorem SumsOf.nil : SumsOf [] [] := ⟨List.nodup_nil, fun k => Iff.rfl, fun k h => absurd h List.not_mem_nil, Nat.le_refl _⟩
theorem SumsOf.all : ∀ (qs : List (List Int × Rat)) {m ps : List (List Int × Rat)}, SumsOf m ps → SumsOf (qs.foldl stepR m) (ps ++ qs)
  | [], m, ps, S => by rw [List.append_nil]; exact S
  | q :: qs, m, ps, S => by
    have := SumsOf.all qs (S.step q)
    rw [List.append_assoc] at this
    exact this
/-! ### order of answers -/
theorem ints_pl (n : Nat) (k : List Int) : D.pls (k.map D.int) n = true := pls_all fun d hd => by
  obtain ⟨i, _, rfl⟩ := List.mem_map.mp hd
  rfl
theorem ans_pl (k : List Int) (n : Nat) : (ans k).pl (n + 1) = true := ints_pl n k
/-! ### comprehensions -/
/-! ### spreads -/
def spPairD (p : List Int × Rat) : D := .tup [ans p.1, shr p.2]
/-! ### dicts, step by step -/
@[simp] theorem ownD_app (i : Nat) (e : DL.Env) (k : Bool → List (D × D) → Out) : ownD i e k = (match e[i]? with | some (some (.dct t kvs, true)) => k t kvs | _ => .bad) := Eq.trans rfl rfl
@[simp] theorem sPutD_app (al : List Nat) (i : Nat) (fk fv : DL.Env → Res D) (e : DL.Env) : sPutD al i fk fv e = ownD i (fz al e) fun t kvs => sE al (fun e => (fv e).bind fun v => (fk e).bind fun k => .ok (k, v)) (fun kv e' =>
  if D.keyOk t kv.1 = true ∧ kvs.length < sizeLine then .nx (e'.set i (some (.dct t (dSet kvs kv.1 kv.2), true))) else .bad) e := Eq.trans rfl rfl
@[simp] theorem eGet2_app (fa fb fc : DL.Env → Res D) (e : DL.Env) : eGet2 fa fb fc e = (fa e).bind fun d => match d with
  | .dct t kvs => (fb e).bind fun k => (fc e).bind fun x => dGet2 (.dct t kvs) k x
  | _ => .bad := Eq.trans rfl rfl
@[simp] theorem eDNew_app (t : Bool) (e : DL.Env) : eDNew t e = .ok (.dct t []) := Eq.trans rfl rfl
/-! ### falling shares come to one -/
@[simp] theorem sPutL_app (al : List Nat) (i : Nat) (fk fv : DL.Env → Res D) (e : DL.Env) : sPutL al i fk fv e = ownL i (fz al e) fun xs => sE al (fun e => (fv e).bind fun v => (fk e).bind fun k => .ok (k, v)) (fun kv e' => match kv.1 with
  | .int k => match ixN xs.length k with
    | some j => .nx (e'.set i (some (.lst (xs.set j kv.2), true)))
    | none => .bad
  | _ => .bad) e := Eq.trans rfl rfl
@[simp] theorem bind_sp (ps : List Pat) (p : List Int × Rat) (e : DL.Env) : Pat.bind (.tp ps) (spPairD p) e = Pat.binds ps [ans p.1, shr p.2] e := Eq.trans rfl rfl
@[simp] theorem sp_0 (p : List Int × Rat) : dIx (spPairD p) (.int 0) = .ok (ans p.1) := dIx_tup0 _ _
@[simp] theorem sp_1 (p : List Int × Rat) : dIx (spPairD p) (.int 1) = .ok (shr p.2) := dIx_tup1 _ _ _
@[simp] theorem ans_0 (a : Int) (r : List Int) : dIx (ans (a :: r)) (.int 0) = .ok (.int a) := dIx_tup0 _ _
theorem ints_of : ∀ ns : List Int, D.ints (ns.map D.int) = some ns
  | [] => rfl
  | n :: r => by show (D.ints (r.map D.int)).map _ = _; rw [ints_of r]; rfl
@[simp] theorem dSum_ints (ns : List Int) : dSum (.lst (ns.map D.int)) = .ok (.int ns.sum) := by
  show (match D.ints (ns.map D.int) with | some ns => Res.ok (D.int ns.sum) | none => .bad) = _
  rw [ints_of]
/-- places and numbers -/
def natL (ws : List Nat) : List D := ws.map fun (w : Nat) => D.int (w : Int)
theorem natL_ints (ws : List Nat) : natL ws = (ws.map fun (w : Nat) => (w : Int)).map D.int := by
  unfold natL
  rw [List.map_map]; rfl
theorem nat_sum : ∀ ws : List Nat, (ws.map fun (w : Nat) => (w : Int)).sum = ((ws.sum : Nat) : Int)
  | [] => rfl
  | w :: r => by rw [List.map_cons, List.sum_cons, List.sum_cons, nat_sum r, Int.natCast_add]
@[simp] theorem dSum_nats (ws : List Nat) : dSum (.lst (natL ws)) = .ok (.int (ws.sum : Nat)) := by
  rw [natL_ints, dSum_ints, nat_sum]
theorem dIx_last (xs : List D) (d : D) : dIx (.lst (xs ++ [d])) (.int (-1)) = .ok d := by
  have e : ixN (xs.length + 1) (-1) = some xs.length := by
    unfold ixN
    rw [if_neg (by decide), if_pos (by omega)]
    congr 1
    omega
  simp [dIx, atI, e]
end DL

/-! dicts of any keys, plainly -/
namespace DL
open PySem PySem.Spec PyProof.Rows L2
open PySem.Builtin.Int (intBits)
section
variable {α β : Type} [DecidableEq α] {f : α → D} {g : β → D}
def getG (m : List (α × β)) (k : α) : Option β := (m.find? fun p => decide (p.1 = k)).map (·.2)
def putG (m : List (α × β)) (k : α) (x : β) : List (α × β) := if (m.any fun p => decide (p.1 = k)) = true then m.map (fun p => if p.1 = k then (p.1, x) else p) else m ++ [(k, x)]
theorem any_keyG {m : List (α × β)} {k : α} : (m.any fun p => decide (p.1 = k)) = true ↔ k ∈ m.map (·.1) := by
  rw [List.any_eq_true, List.mem_map]
  constructor
  · rintro ⟨p, h, e⟩; exact ⟨p, h, by simpa using e⟩
  · rintro ⟨p, h, e⟩; exact ⟨p, h, by simpa using e⟩
theorem put_keysG (m : List (α × β)) (k : α) (x : β) : (putG m k x).map (·.1) = if k ∈ m.map (·.1) then m.map (·.1) else m.map (·.1) ++ [k] := by
  unfold putG
  by_cases h : k ∈ m.map (·.1)
  · rw [if_pos (any_keyG.mpr h), if_pos h, List.map_map]
    apply List.map_congr_left
    intro p _
    show (if p.1 = k then (p.1, x) else p).1 = p.1
    split <;> rfl
  · rw [if_neg (fun z => h (any_keyG.mp z)), if_neg h, List.map_append]; rfl
theorem put_get_selfG (m : List (α × β)) (k : α) (x : β) : getG (putG m k x) k = some x := by
  unfold putG
  split
  · rename_i h
    induction m with
    | nil => simp at h
    | cons p m ih =>
      unfold getG
      rw [List.map_cons, List.find?_cons]
      by_cases hp : p.1 = k
      · simp [hp]
      · simp only [if_neg hp, decide_eq_false hp]
        have h' : (m.any fun p => decide (p.1 = k)) = true := by simpa [hp] using h
        exact ih h'
  · rename_i h
    unfold getG
    rw [List.find?_append]
    have : m.find? (fun p => decide (p.1 = k)) = none := by
      cases e : m.find? (fun p => decide (p.1 = k)) with
      | none => rfl
      | some p =>
        exfalso
        apply h
        rw [List.any_eq_true]
        exact ⟨p, List.mem_of_find?_eq_some e, List.find?_some (p := fun p : α × β => decide (p.1 = k)) e⟩
    rw [this]
    simp
theorem put_get_neG {m : List (α × β)} {k j : α} (x : β) (h : j ≠ k) : getG (putG m k x) j = getG m j := by
  unfold putG
  split
  · induction m with
    | nil => rfl
    | cons p m ih =>
      unfold getG at *
      rw [List.map_cons, List.find?_cons, List.find?_cons]
      by_cases hp : p.1 = k
      · have hj : p.1 ≠ j := fun z => h (by rw [← z, hp])
        simp only [if_pos hp, decide_eq_false hj]
        rename_i hh
        by_cases h3 : (m.any fun p => decide (p.1 = k)) = true
        · exact ih h3
        · have : m.map (fun p => if p.1 = k then (p.1, x) else p) = m := by
            conv => rhs; rw [← List.map_id m]
            apply List.map_congr_left
            intro q hq
            rw [if_neg]
            · rfl
            · intro z
              apply h3
              rw [List.any_eq_true]
              exact ⟨q, hq, by simpa using z⟩
          rw [this]
      · simp only [if_neg hp]
        by_cases hj : p.1 = j
        · simp [hj]
        · simp only [decide_eq_false hj]
          rename_i hh
          exact ih (by simpa [hp] using hh)
  · unfold getG
    rw [List.find?_append]
    cases m.find? (fun p => decide (p.1 = j)) with
    | some p => rfl
    | none => simp [Ne.symm h]

theorem putG_len (m : List (α × β)) (k : α) (x : β) : (putG m k x).length ≤ m.length + 1 := by
  have e := congrArg List.length (put_keysG m k x)
  rw [List.length_map] at e
  rw [e]
  split
  · rw [List.length_map]; omega
  · rw [List.length_append, List.length_map]; exact Nat.le_refl _
end
/-- so many times each -/
def bumpG {α : Type} [DecidableEq α] (m : List (α × Nat)) (k : α) : List (α × Nat) := putG m k ((getG m k).getD 0 + 1)
def timesG {α : Type} [DecidableEq α] (k : α) (l : List α) : Nat := (l.filter fun x => decide (x = k)).length
structure CountsOf {α : Type} [DecidableEq α] (m : List (α × Nat)) (l : List α) : Prop where
  nd : (m.map (·.1)).Nodup
  ks : ∀ k, k ∈ m.map (·.1) ↔ k ∈ l
  gt : ∀ k, (getG m k).getD 0 = timesG k l
  sm : ∀ k, k ∈ l → getG m k = some (timesG k l)
  ln : m.length ≤ l.length
theorem CountsOf.nil {α : Type} [DecidableEq α] : CountsOf ([] : List (α × Nat)) [] := ⟨List.nodup_nil, fun k => Iff.rfl, fun k => rfl, fun k h => absurd h List.not_mem_nil, Nat.le_refl _⟩
theorem timesG_snoc {α : Type} [DecidableEq α] (k x : α) (l : List α) : timesG k (l ++ [x]) = timesG k l + if x = k then 1 else 0 := by
  unfold timesG
  rw [List.filter_append, List.length_append]
  by_cases h : x = k
  · simp [h]
  · simp [h]
theorem CountsOf.step {α : Type} [DecidableEq α] {m : List (α × Nat)} {l : List α} (S : CountsOf m l) (x : α) : CountsOf (bumpG m x) (l ++ [x]) := by
  have hk := put_keysG m x ((getG m x).getD 0 + 1)
  have g1 : ∀ k, getG (bumpG m x) k = if x = k then some (timesG k l + 1) else getG m k := fun k => by
    unfold bumpG
    by_cases e : x = k
    · subst e
      rw [put_get_selfG, if_pos rfl, S.gt]
    · rw [put_get_neG _ (Ne.symm e), if_neg e]
  refine ⟨?_, fun k => ?_, fun k => ?_, fun k h => ?_, ?_⟩
  · unfold bumpG
    rw [hk]
    split
    · exact S.nd
    · rename_i h
      rw [List.nodup_append]
      refine ⟨S.nd, by simp, ?_⟩
      intro a ha b hb
      rw [List.mem_singleton] at hb
      subst hb
      intro e
      subst e
      exact h ha
  · unfold bumpG
    rw [hk, List.mem_append, List.mem_singleton, ← S.ks k]
    split
    · rename_i h
      exact ⟨.inl, fun z => z.elim id fun e => e ▸ h⟩
    · rw [List.mem_append, List.mem_singleton]
  · rw [g1, timesG_snoc]
    split
    · rfl
    · rw [S.gt]; rfl
  · rw [g1, timesG_snoc]
    split
    · rfl
    · rename_i e
      rw [List.mem_append, List.mem_singleton] at h
      rw [S.sm k (h.resolve_right fun z => e z.symm)]
      rfl
  · have := putG_len m x ((getG m x).getD 0 + 1)
    have l' := S.ln
    rw [List.length_append]
    show (putG m x _).length ≤ l.length + 1
    omega
/-! ### sorted numbers -/
theorem lt_int (a b : Int) : D.lt (.int a) (.int b) = decide (a < b) := by
  show PyProof.Rows.lexLt itemOrd [.inl a] [.inl b] = _
  rw [PyProof.Rows.lex_cons]
  show (decide (a < b) || (!decide (b < a) && false)) = _
  simp
theorem le_int (a b : Int) : D.le (.int a) (.int b) = decide (a ≤ b) := by
  unfold D.le
  rw [lt_int]
  by_cases h : a ≤ b
  · rw [decide_eq_true h, decide_eq_false (by omega)]; rfl
  · rw [decide_eq_false h, decide_eq_true (by omega)]; rfl
end DL

/-! rows of numbers, plainly -/
namespace DL
open PySem PySem.Spec PyProof.Rows L2
open PySem.Builtin.Int (intBits)
theorem beq_ans (a b : List Int) : D.beq (ans a) (ans b) = decide (a = b) := by
  have gen : ∀ (a b : List Int), PyData.eqvAll (D.pys (a.map D.int)) (D.pys (b.map D.int)) = decide (a = b) := by
    intro a
    induction a with
    | nil => intro b; cases b <;> simp [D.pys, PyData.eqvAll]
    | cons x a ih =>
      intro b
      cases b with
      | nil => simp [D.pys, PyData.eqvAll]
      | cons y b =>
        simp only [List.map_cons, D.pys, D.py, PyData.eqvAll, ih b]
        show (PyData.eqv (.int x) (.int y) && decide (a = b)) = _
        have e : PyData.eqv (.int x) (.int y) = decide (x = y) := by
          simp [PyData.eqv]
          exact Bool.eq_iff_iff.mpr (by simp)
        rw [e]
        by_cases h1 : x = y <;> by_cases h2 : a = b <;> simp [h1, h2]
  show PyData.eqv (.tuple (D.pys (a.map D.int))) (.tuple (D.pys (b.map D.int))) = _
  rw [PyData.eqv]
  exact gen a b
/-! ### how many stand in the one and not in the other -/
section
variable {α : Type} [DecidableEq α]
end
end DL

/-! rows of numbers, sorted -/
namespace DL
open PySem PySem.Spec PyProof.Rows L2
end DL

/-! Typed readings of the plain-data bodies: what a body does, told over Lean's own types. -/
namespace DL
open PySem PySem.Spec PyProof.Rows L2
open PySem.Builtin.Int (intBits)

/-- two lists, item by item -/
def A2 {α β : Type} (E : α → β → Prop) : List α → List β → Prop
  | [], ds => ds = []
  | a :: l, ds => ∃ d r, ds = d :: r ∧ E a d ∧ A2 E l r
section
variable {α β : Type} {E : α → β → Prop}
theorem A2.nil : A2 E [] [] := rfl
theorem A2.cons {a : α} {d : β} {l : List α} {r : List β} (h : E a d) (t : A2 E l r) : A2 E (a :: l) (d :: r) := ⟨d, r, rfl, h, t⟩
theorem A2.length : ∀ {l : List α} {r : List β}, A2 E l r → r.length = l.length
  | [], _, h => by rw [show _ = [] from h]; rfl
  | _ :: _, _, ⟨d, r, e, _, t⟩ => by rw [e, List.length_cons, List.length_cons, A2.length t]
theorem A2.append : ∀ {l l' : List α} {r r' : List β}, A2 E l r → A2 E l' r' → A2 E (l ++ l') (r ++ r')
  | [], _, _, _, h, t => by rw [show _ = [] from h]; exact t
  | _ :: _, _, _, _, ⟨d, r, e, x, y⟩, t => by rw [e]; exact ⟨d, _, rfl, x, A2.append y t⟩
theorem A2.drop : ∀ {l : List α} {r : List β} (n : Nat), A2 E l r → A2 E (l.drop n) (r.drop n)
  | _, _, 0, h => h
  | [], _, n + 1, h => by rw [show _ = [] from h]; rfl
  | _ :: _, _, n + 1, ⟨d, r, e, x, y⟩ => by rw [e]; exact A2.drop n y
theorem A2.take : ∀ {l : List α} {r : List β} (n : Nat), A2 E l r → A2 E (l.take n) (r.take n)
  | _, _, 0, h => rfl
  | [], _, n + 1, h => by rw [show _ = [] from h]; rfl
  | _ :: _, _, n + 1, ⟨d, r, e, x, y⟩ => by rw [e]; exact ⟨d, _, rfl, x, A2.take n y⟩
theorem A2.set {a : α} {d : β} (h : E a d) : ∀ {l : List α} {r : List β} (n : Nat), A2 E l r → A2 E (l.set n a) (r.set n d)
  | [], _, n, e => by rw [show _ = [] from e]; rfl
  | _ :: _, _, 0, ⟨w, r, e, x, y⟩ => by rw [e]; exact ⟨d, r, rfl, h, y⟩
  | _ :: _, _, n + 1, ⟨w, r, e, x, y⟩ => by rw [e]; exact ⟨w, _, rfl, x, A2.set h n y⟩
theorem A2.get : ∀ {l : List α} {r : List β} {i : Nat} {a : α}, A2 E l r → l[i]? = some a → ∃ d, r[i]? = some d ∧ E a d
  | _ :: _, _, 0, _, ⟨v, r, e, x, y⟩, h => by cases h; exact ⟨v, by rw [e]; rfl, x⟩
  | _ :: _, _, i + 1, d, ⟨v, r, e, x, y⟩, h => by
    obtain ⟨w, h1, h2⟩ := A2.get (i := i) (a := d) y (by simpa using h)
    exact ⟨w, by rw [e]; simpa using h1, h2⟩
theorem A2.imp {E' : α → β → Prop} (f : ∀ a d, E a d → E' a d) : ∀ {l : List α} {r : List β}, A2 E l r → A2 E' l r
  | [], _, h => h
  | _ :: _, _, ⟨d, r, e, x, y⟩ => ⟨d, r, e, f _ _ x, A2.imp f y⟩
theorem A2.fn {f : α → β} : ∀ {l : List α} {r : List β}, A2 (fun a d => d = f a) l r ↔ r = l.map f
  | [], r => Iff.rfl
  | a :: l, r => ⟨fun ⟨d, r', e, x, y⟩ => by rw [e, x, A2.fn.mp y]; rfl, fun h => ⟨f a, l.map f, h, rfl, A2.fn.mpr rfl⟩⟩
end

/-- r tells what x is, where it tells at all -/
def Rf {α β : Type} (x : Res β) (r : Res α) (E : α → β → Prop) : Prop := match r with
  | .ok a => ∃ d, x = .ok d ∧ E a d
  | .exc c fs => x = .exc c fs
  | .bad => True
section
variable {α β γ δ : Type}
theorem Rf.bind {x : Res β} {r : Res α} {E : α → β → Prop} {f : β → Res δ} {g : α → Res γ} {E' : γ → δ → Prop} (h : Rf x r E) (k : ∀ a d, E a d → Rf (f d) (g a) E') : Rf (x.bind f) (r.bind g) E' := by
  cases r with
  | ok a => obtain ⟨d, e, h⟩ := h; rw [e]; exact k a d h
  | exc c fs => rw [show x = _ from h]; exact rfl
  | bad => trivial
theorem Rf.ok {d : β} {a : α} {E : α → β → Prop} (h : E a d) : Rf (.ok d) (.ok a) E := ⟨d, rfl, h⟩
theorem Rf.bad {x : Res β} {E : α → β → Prop} : Rf x .bad E := trivial
theorem Rf.imp {x : Res β} {r : Res α} {E E' : α → β → Prop} (h : Rf x r E) (f : ∀ a d, E a d → E' a d) : Rf x r E' := by
  cases r with
  | ok a => obtain ⟨d, e, h⟩ := h; exact ⟨d, e, f _ _ h⟩
  | exc c fs => exact h
  | bad => trivial
theorem Rf.map {x : Res β} {r : Res α} {E : α → β → Prop} {E' : γ → β → Prop} {g : α → γ} (h : Rf x r E) (f : ∀ a d, E a d → E' (g a) d) : Rf x (r.bind fun a => .ok (g a)) E' := by
  cases r with
  | ok a => obtain ⟨d, e, h⟩ := h; exact ⟨d, e, f _ _ h⟩
  | exc c fs => exact h
  | bad => trivial
theorem Rf.get {x : Res β} {r : Res α} {E : α → β → Prop} {a : α} (h : Rf x r E) (e : r = .ok a) : ∃ d, x = .ok d ∧ E a d := by subst e; exact h
/-- where the reckoning itself is told -/
theorem Rf.of {x : Res β} {r : Res α} {E : α → β → Prop} {d : β} {a : α} (e : x = .ok d) (q : r = .ok a) (h : E a d) : Rf x r E := by subst q; exact ⟨d, e, h⟩
end

/-- what is known of a name -/
abbrev Kn := D → Bool → Prop
abbrev KEnv := List (Option Kn)
def sh {α : Type} (E : α → D → Prop) (a : α) : Kn := fun d o => E a d ∧ o = false
def ow {α : Type} (E : α → D → Prop) (a : α) : Kn := fun d o => E a d ∧ o = true
/-- the names' values are as known -/
def Le : KEnv → DL.Env → Prop := A2 fun r x => ∀ P, r = some P → ∃ d o, x = some (d, o) ∧ P d o
theorem Le.get {ρ : KEnv} {e : DL.Env} (h : Le ρ e) {i : Nat} {P : Kn} (k : ρ[i]? = some (some P)) : ∃ d o, e[i]? = some (some (d, o)) ∧ P d o := by
  obtain ⟨x, h1, h2⟩ := A2.get h k
  obtain ⟨d, o, h3, h4⟩ := h2 P rfl
  exact ⟨d, o, by rw [h1, h3], h4⟩
theorem Le.set {ρ : KEnv} {e : DL.Env} (h : Le ρ e) (i : Nat) {P : Kn} {d : D} {o : Bool} (k : P d o) : Le (ρ.set i (some P)) (e.set i (some (d, o))) :=
  A2.set (fun Q hq => by cases hq; exact ⟨d, o, rfl, k⟩) i h
theorem Le.forget {ρ : KEnv} {e : DL.Env} (h : Le ρ e) (i : Nat) : Le (ρ.set i none) (e.set i none) := A2.set (fun Q hq => by cases hq) i h
/-- less is known -/
def Sb : KEnv → KEnv → Prop := A2 fun r x => r = none ∨ r = x
theorem Le.less {ρ' ρ : KEnv} {e : DL.Env} (s : Sb ρ' ρ) (h : Le ρ e) : Le ρ' e := by
  induction ρ generalizing ρ' e with
  | nil =>
    cases ρ' with
    | nil => exact h
    | cons r ρ' => obtain ⟨_, _, e, _⟩ := s; cases e
  | cons x ρ ih =>
    obtain ⟨y, e', rfl, h1, h2⟩ := h
    cases ρ' with
    | nil => cases (show _ = [] from s)
    | cons r ρ' =>
      obtain ⟨_, _, e, s1, s2⟩ := s
      cases e
      refine ⟨y, e', rfl, fun P hP => ?_, ih s2 h2⟩
      rcases s1 with z | z
      · rw [z] at hP; cases hP
      · exact h1 P (z ▸ hP)
theorem Sb.nil : Sb [] [] := rfl
theorem Sb.same {r : Option Kn} {a b : KEnv} (s : Sb a b) : Sb (r :: a) (r :: b) := ⟨_, _, rfl, .inr rfl, s⟩
theorem Sb.drop {r : Option Kn} {a b : KEnv} (s : Sb a b) : Sb (none :: a) (r :: b) := ⟨_, _, rfl, .inl rfl, s⟩
theorem Sb.refl : ∀ a : KEnv, Sb a a
  | [] => rfl
  | _ :: a => .same (Sb.refl a)
/-- a list is handed on: what was owned is owned no more -/
def frK (P : Kn) : Kn := fun d o => o = false ∧ ∃ o', P d o'
def fzK : List Nat → KEnv → KEnv
  | [], ρ => ρ
  | i :: r, ρ => fzK r (match ρ[i]? with
    | some (some P) => ρ.set i (some (frK P))
    | _ => ρ)
theorem Le.unown {ρ : KEnv} {e : DL.Env} (h : Le ρ e) (i : Nat) : Le (match ρ[i]? with | some (some P) => ρ.set i (some (frK P)) | _ => ρ) (unown i e) := by
  cases hp : ρ[i]? with
  | none =>
    have : e[i]? = none := by
      rw [List.getElem?_eq_none_iff] at hp ⊢
      rw [A2.length h]; exact hp
    unfold DL.unown
    rw [this]
    exact h
  | some r =>
    cases r with
    | none =>
      have self : ρ.set i none = ρ := by
        apply List.ext_getElem?
        intro j
        rw [List.getElem?_set]
        by_cases hj : i = j
        · subst hj
          obtain ⟨w, hw⟩ := List.getElem?_eq_some_iff.mp hp
          simp [w, hw]
        · simp [hj]
      unfold DL.unown
      cases he : e[i]? with
      | none => exact h
      | some s =>
        cases s with
        | none => exact h
        | some z =>
          obtain ⟨d, o⟩ := z
          cases o with
          | false => exact h
          | true =>
            show Le ρ (e.set i (some (d, false)))
            rw [← self]
            exact A2.set (fun P hP => by cases hP) i h
    | some P =>
      obtain ⟨d, o, he, hP⟩ := h.get hp
      unfold DL.unown
      rw [he]
      cases o with
      | true => exact Le.set h i ⟨rfl, _, hP⟩
      | false =>
        dsimp only
        have : e.set i (some (d, false)) = e := by
          apply List.ext_getElem?
          intro j
          rw [List.getElem?_set]
          by_cases hj : i = j
          · subst hj
            rw [he]
            have := (List.getElem?_eq_some_iff.mp he).1
            simp [this]
          · simp [hj]
        rw [← this]
        exact Le.set h i ⟨rfl, _, hP⟩
theorem Le.fz : ∀ (al : List Nat) {ρ : KEnv} {e : DL.Env}, Le ρ e → Le (fzK al ρ) (fz al e)
  | [], _, _, h => h
  | i :: r, _, _, h => Le.fz r (h.unown i)
def wipeK (ρ : KEnv) : List Nat → KEnv
  | [] => ρ
  | v :: vs => (wipeK ρ vs).set v none
theorem Le.wipe {ρ : KEnv} {e : DL.Env} (h : Le ρ e) : ∀ vs : List Nat, Le (wipeK ρ vs) (wipeE e vs)
  | [] => h
  | v :: vs => (Le.wipe h vs).forget v

/-! ### expressions -/
def EvR {α β : Type} (ρ : KEnv) (f : DL.Env → Res β) (r : Res α) (E : α → β → Prop) : Prop := ∀ e, Le ρ e → Rf (f e) r E
abbrev RE (α : Type) := α → D → Prop
def eI : RE Int := fun i d => d = .int i
def eB : RE Bool := fun b d => d = .bl b
def eS : RE Str := fun x d => d = .str x
def eN : RE Unit := fun _ d => d = .non
def eD : RE D := fun a d => d = a
def eL {α : Type} (E : RE α) : RE (List α) := fun l d => ∃ ds, d = .lst ds ∧ A2 E l ds
def eT {α : Type} (E : RE α) : RE (List α) := fun l d => ∃ ds, d = .tup ds ∧ A2 E l ds
/-- rows of numbers -/
def eR : RE (List Int) := fun k d => d = ans k
def q1 {α : Type} (E : RE α) : α → List D → Prop := fun a ds => ∃ d, ds = [d] ∧ E a d
def qC {α β : Type} (E : RE α) (Q : β → List D → Prop) : α × β → List D → Prop := fun p ds => ∃ d r, ds = d :: r ∧ E p.1 d ∧ Q p.2 r
/-- truths and lists, as they are -/
def Tr : Bool → Bool → Prop := fun a b => b = a
/-- nothing or something -/
def eO {α : Type} (E : RE α) : RE (Option α) := fun o d => match o with
  | none => d = .non
  | some a => E a d
section
variable {α β γ δ : Type} {ρ : KEnv}
theorem v_s {i : Nat} {E : RE α} {a : α} (h : ρ[i]? = some (some (sh E a))) : EvR ρ (eVarS i) (.ok a) E := fun e l => by
  obtain ⟨d, o, h1, h2, h3⟩ := l.get h
  subst h3
  exact ⟨d, by unfold eVarS; rw [h1], h2⟩
theorem v_o {i : Nat} {E : RE α} {a : α} (h : ρ[i]? = some (some (ow E a))) : EvR ρ (eVar i) (.ok a) E := fun e l => by
  obtain ⟨d, o, h1, h2, h3⟩ := l.get h
  exact ⟨d, by unfold eVar; rw [h1], h2⟩
theorem v_c {d : D} {E : RE α} {a : α} (h : E a d) : EvR ρ (eC d) (.ok a) E := fun e l => ⟨d, rfl, h⟩
theorem v_op {fa fb : DL.Env → Res D} {g : D → D → Res D} {Ea : RE α} {Eb : RE β} {Ec : RE γ} {ra : Res α} {rb : Res β} {gt : α → β → Res γ} (hg : ∀ a b x y, Ea a x → Eb b y → Rf (g x y) (gt a b) Ec) (ha : EvR ρ fa ra Ea) (hb : EvR ρ fb rb Eb) :
    EvR ρ (eOp g fa fb) (ra.bind fun a => rb.bind fun b => gt a b) Ec := fun e l => (ha e l).bind fun a x h1 => (hb e l).bind fun b y h2 => hg a b x y h1 h2
theorem v_opp {fa fb : DL.Env → Res D} {g : D → D → Res D} {Ea : RE α} {Eb : RE β} {Ec : RE γ} {a : α} {b : β} {r : Res γ} (hg : ∀ x y, Ea a x → Eb b y → Rf (g x y) r Ec) (ha : EvR ρ fa (.ok a) Ea) (hb : EvR ρ fb (.ok b) Eb) :
    EvR ρ (eOp g fa fb) r Ec := fun e l => by
  obtain ⟨x, e1, h1⟩ := ha e l
  obtain ⟨y, e2, h2⟩ := hb e l
  unfold eOp
  rw [e1, e2]
  exact hg x y h1 h2
theorem v_1 {fa : DL.Env → Res D} {g : D → Res D} {Ea : RE α} {Ec : RE γ} {ra : Res α} {gt : α → Res γ} (hg : ∀ a x, Ea a x → Rf (g x) (gt a) Ec) (ha : EvR ρ fa ra Ea) : EvR ρ (e1 g fa) (ra.bind gt) Ec := fun e l => (ha e l).bind hg
theorem v_1p {fa : DL.Env → Res D} {g : D → Res D} {Ea : RE α} {Ec : RE γ} {a : α} {r : Res γ} (hg : ∀ x, Ea a x → Rf (g x) r Ec) (ha : EvR ρ fa (.ok a) Ea) : EvR ρ (e1 g fa) r Ec := fun e l => by
  obtain ⟨x, e1, h1⟩ := ha e l
  unfold DL.e1
  rw [e1]
  exact hg x h1
theorem v_imp {fa : DL.Env → Res β} {E E' : α → β → Prop} {r : Res α} (h : EvR ρ fa r E) (f : ∀ a d, E a d → E' a d) : EvR ρ fa r E' := fun e l => (h e l).imp f
theorem v_cast {fa : DL.Env → Res β} {E : α → β → Prop} {E' : γ → β → Prop} {a : α} {c : γ} (h : EvR ρ fa (.ok a) E) (f : ∀ d, E a d → E' c d) : EvR ρ fa (.ok c) E' := fun e l => by
  obtain ⟨x, e1, h1⟩ := h e l
  exact ⟨x, e1, f x h1⟩
theorem v_map {fa : DL.Env → Res β} {E : α → β → Prop} {E' : γ → β → Prop} {r : Res α} {g : α → γ} (h : EvR ρ fa r E) (f : ∀ a d, E a d → E' (g a) d) : EvR ρ fa (r.bind fun a => .ok (g a)) E' := fun e l => (h e l).map f
/-- typed anew, where it can be -/
theorem v_as {fa : DL.Env → Res β} {E : α → β → Prop} {E' : γ → β → Prop} {r : Res α} {g : α → Res γ} (h : EvR ρ fa r E) (f : ∀ a d c, E a d → g a = .ok c → E' c d) (n : ∀ a c fs, g a ≠ .exc c fs) : EvR ρ fa (r.bind g) E' := fun e l => by
  have := h e l
  cases r with
  | ok a =>
    obtain ⟨d, e1, h1⟩ := this
    show Rf (fa e) (g a) E'
    cases q : g a with
    | ok c => exact ⟨d, e1, f a d c h1 q⟩
    | exc c fs => exact absurd q (n _ _ _)
    | bad => trivial
  | exc c fs => exact this
  | bad => trivial
theorem vq_1 {f : DL.Env → Res D} {r : Res α} {E : RE α} (h : EvR ρ f r E) : EvR ρ (aCons f aNil) r (q1 E) := fun e l => by
  have := h e l
  unfold aCons aNil
  cases r with
  | ok a => obtain ⟨d, e1, h1⟩ := this; rw [e1]; exact ⟨[d], rfl, d, rfl, h1⟩
  | exc c fs => rw [show f e = _ from this]; rfl
  | bad => trivial
theorem vq_c {f : DL.Env → Res D} {fs : DL.Env → Res (List D)} {r : Res α} {rs : Res β} {E : RE α} {Q : β → List D → Prop} (h : EvR ρ f r E) (t : EvR ρ fs rs Q) : EvR ρ (aCons f fs) (r.bind fun a => rs.bind fun b => .ok (a, b)) (qC E Q) := fun e l =>
  (h e l).bind fun a d h1 => (t e l).bind fun b ds h2 => .ok ⟨d, ds, rfl, h1, h2⟩
theorem vq_cp {f : DL.Env → Res D} {fs : DL.Env → Res (List D)} {a : α} {b : β} {E : RE α} {Q : β → List D → Prop} (h : EvR ρ f (.ok a) E) (t : EvR ρ fs (.ok b) Q) : EvR ρ (aCons f fs) (.ok (a, b)) (qC E Q) := vq_c h t
/-- as many items as one likes, all of a kind -/
theorem vl_nil {E : RE α} : EvR ρ aNil (.ok []) (A2 E) := fun e l => ⟨[], rfl, rfl⟩
theorem vl_c {f : DL.Env → Res D} {fs : DL.Env → Res (List D)} {r : Res α} {rs : Res (List α)} {E : RE α} (h : EvR ρ f r E) (t : EvR ρ fs rs (A2 E)) : EvR ρ (aCons f fs) (r.bind fun a => rs.bind fun b => .ok (a :: b)) (A2 E) := fun e l =>
  (h e l).bind fun a d h1 => (t e l).bind fun b ds h2 => .ok ⟨d, ds, rfl, h1, h2⟩
theorem vl_cp {f : DL.Env → Res D} {fs : DL.Env → Res (List D)} {a : α} {b : List α} {E : RE α} (h : EvR ρ f (.ok a) E) (t : EvR ρ fs (.ok b) (A2 E)) : EvR ρ (aCons f fs) (.ok (a :: b)) (A2 E) := vl_c h t
theorem v_tupT {fs : DL.Env → Res (List D)} {r : Res (List α)} {E : RE α} (h : EvR ρ fs r (A2 E)) : EvR ρ (eTup fs) r (eT E) := fun e l => by
  have := h e l
  unfold eTup
  cases r with
  | ok a => obtain ⟨d, e1, h1⟩ := this; rw [e1]; exact ⟨_, rfl, d, rfl, h1⟩
  | exc c fs' => rw [show fs e = _ from this]; rfl
  | bad => trivial
theorem v_tupR {fs : DL.Env → Res (List D)} {r : Res (List Int)} (h : EvR ρ fs r (A2 eI)) : EvR ρ (eTup fs) r eR := fun e l => by
  have := h e l
  unfold eTup
  cases r with
  | ok a => obtain ⟨d, e1, h1⟩ := this; rw [e1]; exact ⟨_, rfl, by rw [A2.fn.mp h1]; rfl⟩
  | exc c fs' => rw [show fs e = _ from this]; rfl
  | bad => trivial
theorem v_lst {fs : DL.Env → Res (List D)} {r : Res (List α)} {E : RE α} (h : EvR ρ fs r (A2 E)) : EvR ρ (eLst fs) r (eL E) := fun e l => by
  have := h e l
  unfold eLst
  cases r with
  | ok a => obtain ⟨d, e1, h1⟩ := this; rw [e1]; exact ⟨_, rfl, d, rfl, h1⟩
  | exc c fs' => rw [show fs e = _ from this]; rfl
  | bad => trivial
/-- a call: what the def does on data of these readings -/
def CallR (F : List D → Res D) (Q : α → List D → Prop) (t : α → Res β) (E : RE β) : Prop := ∀ a ds, Q a ds → Rf (F ds) (t a) E
theorem v_call {F : List D → Res D} {fs : DL.Env → Res (List D)} {Q : α → List D → Prop} {t : α → Res β} {E : RE β} {r : Res α} (c : CallR F Q t E) (h : EvR ρ fs r Q) : EvR ρ (eCall F fs) (r.bind t) E := fun e l => (h e l).bind c
theorem v_callp {F : List D → Res D} {fs : DL.Env → Res (List D)} {Q : α → List D → Prop} {t : α → Res β} {E : RE β} {a : α} (c : CallR F Q t E) (h : EvR ρ fs (.ok a) Q) : EvR ρ (eCall F fs) (t a) E := fun e l => by
  obtain ⟨d, e1, h1⟩ := h e l
  unfold eCall
  rw [e1]
  exact c a d h1
/-! tests -/
theorem b_test {fa fb : DL.Env → Res D} {g : D → D → Res D} {r : Res Bool} (h : EvR ρ (eOp g fa fb) r eB) : EvR ρ (bTest g fa fb) r Tr := fun e l => by
  have := h e l
  unfold eOp at this
  unfold bTest
  have q : ∀ (x y : D), ((g x y).bind D.asB) = (g x y).bind D.asB := fun _ _ => rfl
  have ass : (fa e).bind (fun x => (fb e).bind fun y => (g x y).bind D.asB) = ((fa e).bind fun x => (fb e).bind fun y => g x y).bind D.asB := by
    cases fa e with
    | ok x => cases fb e <;> rfl
    | exc c fs => rfl
    | bad => rfl
  rw [ass]
  have z := this.bind (f := D.asB) (g := fun b => Res.ok b) (E' := Tr) fun b d hd => by rw [show d = _ from hd]; exact ⟨b, rfl, rfl⟩
  cases r <;> exact z
theorem b_truB {f : DL.Env → Res D} {r : Res Bool} (h : EvR ρ f r eB) : EvR ρ (bTruth f) r Tr := fun e l => by
  have := (h e l).bind (f := D.truth) (g := fun b => Res.ok b) (E' := Tr) fun b d hd => by rw [show d = _ from hd]; exact ⟨b, rfl, rfl⟩
  cases r <;> exact this
theorem b_and {fa fb : DL.Env → Res Bool} {ra rb : Res Bool} (ha : EvR ρ fa ra Tr) (hb : EvR ρ fb rb Tr) : EvR ρ (bAnd fa fb) (ra.bind fun b => if b = true then rb else .ok false) Tr := fun e l =>
  (ha e l).bind fun a b h => by
    rw [show b = a from h]
    cases a
    · exact ⟨false, rfl, rfl⟩
    · exact hb e l
theorem b_or {fa fb : DL.Env → Res Bool} {ra rb : Res Bool} (ha : EvR ρ fa ra Tr) (hb : EvR ρ fb rb Tr) : EvR ρ (bOr fa fb) (ra.bind fun b => if b = true then .ok true else rb) Tr := fun e l =>
  (ha e l).bind fun a b h => by
    rw [show b = a from h]
    cases a
    · exact hb e l
    · exact ⟨true, rfl, rfl⟩
theorem b_not {fa : DL.Env → Res Bool} {ra : Res Bool} (ha : EvR ρ fa ra Tr) : EvR ρ (bNot fa) (ra.bind fun b => .ok (!b)) Tr := fun e l =>
  (ha e l).bind fun a b h => by rw [show b = a from h]; exact ⟨_, rfl, rfl⟩
theorem b_andP {fa fb : DL.Env → Res Bool} {P Q : Prop} [Decidable P] [Decidable Q] (ha : EvR ρ fa (.ok (decide P)) Tr) (hb : EvR ρ fb (.ok (decide Q)) Tr) : EvR ρ (bAnd fa fb) (.ok (decide (P ∧ Q))) Tr := fun e l => by
  have := b_and ha hb e l
  rw [show (Res.ok (decide P)).bind (fun b => if b = true then Res.ok (decide Q) else .ok false) = .ok (decide (P ∧ Q)) by by_cases h : P <;> simp [h]] at this
  exact this
/-! values of and, or, not -/
theorem v_and {fa fb : DL.Env → Res D} {ra rb : Res Bool} (ha : EvR ρ fa ra eB) (hb : EvR ρ fb rb eB) : EvR ρ (eAnd fa fb) (ra.bind fun b => if b = true then rb else .ok false) eB := fun e l =>
  (ha e l).bind fun a b h => by
    rw [show b = _ from h]
    cases a
    · exact ⟨_, rfl, rfl⟩
    · exact hb e l
theorem v_or {fa fb : DL.Env → Res D} {ra rb : Res Bool} (ha : EvR ρ fa ra eB) (hb : EvR ρ fb rb eB) : EvR ρ (eOr fa fb) (ra.bind fun b => if b = true then .ok true else rb) eB := fun e l =>
  (ha e l).bind fun a b h => by
    rw [show b = _ from h]
    cases a
    · exact hb e l
    · exact ⟨_, rfl, rfl⟩
theorem v_not {fa : DL.Env → Res D} {ra : Res Bool} (ha : EvR ρ fa ra eB) : EvR ρ (eNot fa) (ra.bind fun b => .ok (!b)) eB := fun e l =>
  (ha e l).bind fun a b h => by rw [show b = _ from h]; exact ⟨_, rfl, rfl⟩
theorem v_andP {fa fb : DL.Env → Res D} {P Q : Prop} [Decidable P] [Decidable Q] (ha : EvR ρ fa (.ok (decide P)) eB) (hb : EvR ρ fb (.ok (decide Q)) eB) : EvR ρ (eAnd fa fb) (.ok (decide (P ∧ Q))) eB := fun e l => by
  have := v_and ha hb e l
  rw [show (Res.ok (decide P)).bind (fun b => if b = true then Res.ok (decide Q) else .ok false) = .ok (decide (P ∧ Q)) by by_cases h : P <;> simp [h]] at this
  exact this
theorem v_P {fa : DL.Env → Res D} {b : Bool} (ha : EvR ρ fa (.ok b) eB) : EvR ρ fa (.ok (decide (b = true))) eB := by
  cases b <;> exact ha
end
end DL

/-! Typed readings: statements, loops, defs. -/
namespace DL
open PySem PySem.Spec PyProof.Rows L2
open PySem.Builtin.Int (intBits)

/-- how a turn of a loop ends -/
inductive Oc (S R : Type) where
  | nx (s : S)
  | bk (s : S)
  | rt (v : R)

/-- what a block does, told by r; P: what an end means -/
def JM {T : Type} (r : Res T) (P : T → Out → Prop) (o : Out) : Prop := match r with
  | .ok t => P t o
  | .exc c fs => ∃ e', o = .ex c fs e'
  | .bad => True
def J {T : Type} (ρ : KEnv) (b : DL.Env → Out) (r : Res T) (P : T → Out → Prop) : Prop := ∀ e, Le ρ e → JM r P (b e)
/-- a def's end -/
def PT {R : Type} (E : RE R) : R → Out → Prop := fun v o => ∃ d, E v d ∧ (o = .rt d ∨ o = .ro d ∨ ((∃ e, o = .nx e) ∧ d = .non))
/-- on to the next -/
def PN {S : Type} (ρ : S → KEnv) : S → Out → Prop := fun s o => ∃ e, o = .nx e ∧ Le (ρ s) e
/-- a turn's end -/
def PB {S : Type} (ρ : S → KEnv) : S → Out → Prop := fun s o => ∃ e, (o = .nx e ∨ o = .ct e) ∧ Le (ρ s) e
def PL {S R : Type} (ρ : S → KEnv) (E : RE R) : Oc S R → Out → Prop := fun t o => match t with
  | .nx s => ∃ e, (o = .nx e ∨ o = .ct e) ∧ Le (ρ s) e
  | .bk s => ∃ e, o = .bk e ∧ Le (ρ s) e
  | .rt v => ∃ d, E v d ∧ (o = .rt d ∨ o = .ro d)
/-- a loop's end -/
def PX {S R : Type} (ρ : S → KEnv) (E : RE R) : Oc S R → Out → Prop := fun t o => match t with
  | .nx s => ∃ e, o = .nx e ∧ Le (ρ s) e
  | .bk _ => False
  | .rt v => ∃ d, E v d ∧ (o = .rt d ∨ o = .ro d)
/-- a step that always goes on -/
def Go (ρ : KEnv) (b : DL.Env → Out) (ρ' : KEnv) : Prop := ∀ e, Le ρ e → ∃ e', b e = .nx e' ∧ Le ρ' e'
section
variable {T S R α β : Type} {ρ ρ' : KEnv} {a b c : DL.Env → Out} {r : Res T} {P : T → Out → Prop}
theorem j_go (h : Go ρ a ρ') (k : J ρ' b r P) : J ρ (sSeq a b) r P := fun e l => by
  obtain ⟨e', h1, h2⟩ := h e l
  have : sSeq a b e = b e' := by unfold sSeq; rw [h1]
  rw [this]
  exact k e' h2
theorem j_do {s : Res S} {ρs : S → KEnv} {k : S → Res T} (h : J ρ a s (PN ρs)) (q : ∀ x, J (ρs x) b (k x) P) : J ρ (sSeq a b) (s.bind k) P := fun e l => by
  have := h e l
  cases s with
  | ok x =>
    obtain ⟨e', h1, h2⟩ := this
    have : sSeq a b e = b e' := by unfold sSeq; rw [h1]
    rw [this]
    exact q x e' h2
  | exc cc fs => obtain ⟨e', h1⟩ := this; exact ⟨e', by unfold sSeq; rw [h1]⟩
  | bad => trivial
theorem j_assoc (h : J ρ (sSeq a (sSeq b c)) r P) : J ρ (sSeq (sSeq a b) c) r P := fun e l => by
  have : sSeq (sSeq a b) c e = sSeq a (sSeq b c) e := by unfold sSeq; cases a e <;> rfl
  rw [this]
  exact h e l
theorem j_skip (h : J ρ b r P) : J ρ (sSeq sSkip b) r P := fun e l => h e l
theorem j_if {al : List Nat} {ft : DL.Env → Res Bool} {rt : Res Bool} {ra rb : Res T} (hc : EvR ρ ft rt Tr) (ha : J (fzK al ρ) a ra P) (hb : J (fzK al ρ) b rb P) : J ρ (sIf al ft a b) (rt.bind fun z => if z = true then ra else rb) P := fun e l => by
  have := hc e l
  have f := l.fz al
  cases rt with
  | ok z =>
    obtain ⟨y, h1, h2⟩ := this
    have q : sIf al ft a b e = if y = true then a (fz al e) else b (fz al e) := by rw [sIf_app, h1]
    rw [q, show y = z from h2]
    cases z
    · exact hb _ f
    · exact ha _ f
  | exc cc fs => exact ⟨_, by rw [sIf_app, show ft e = _ from this]⟩
  | bad => trivial
theorem j_ifP {al : List Nat} {ft : DL.Env → Res Bool} {p : Prop} [Decidable p] {ra rb : Res T} (hc : EvR ρ ft (.ok (decide p)) Tr) (ha : J (fzK al ρ) a ra P) (hb : J (fzK al ρ) b rb P) : J ρ (sIf al ft a b) (if p then ra else rb) P := by
  have := j_if hc ha hb
  by_cases h : p
  · rw [if_pos h]; simpa [h] using this
  · rw [if_neg h]; simpa [h] using this
theorem seq_if (al : List Nat) (ft : DL.Env → Res Bool) : sSeq (sIf al ft a b) c = sIf al ft (sSeq a c) (sSeq b c) := by
  funext e
  rw [sSeq_app, sIf_app, sIf_app]
  cases ft e with
  | ok z => cases z <;> rfl
  | exc cc fs => rfl
  | bad => rfl
theorem j_ifs {al : List Nat} {ft : DL.Env → Res Bool} {rt : Res Bool} {ra rb : Res T} (hc : EvR ρ ft rt Tr) (ha : J (fzK al ρ) (sSeq a c) ra P) (hb : J (fzK al ρ) (sSeq b c) rb P) : J ρ (sSeq (sIf al ft a b) c) (rt.bind fun z => if z = true then ra else rb) P := by
  rw [seq_if]; exact j_if hc ha hb
theorem j_ifsP {al : List Nat} {ft : DL.Env → Res Bool} {p : Prop} [Decidable p] {ra rb : Res T} (hc : EvR ρ ft (.ok (decide p)) Tr) (ha : J (fzK al ρ) (sSeq a c) ra P) (hb : J (fzK al ρ) (sSeq b c) rb P) : J ρ (sSeq (sIf al ft a b) c) (if p then ra else rb) P := by
  rw [seq_if]; exact j_ifP hc ha hb
/-! ends -/
theorem j_ret {al : List Nat} {f : DL.Env → Res D} {x : Res R} {E : RE R} {g : R → T} (hP : ∀ v d, E v d → P (g v) (.rt d)) (h : EvR ρ f x E) : J ρ (sSeq (sRet al f) c) (x.bind fun v => .ok (g v)) P := fun e l => by
  have := h e l
  cases x with
  | ok v => obtain ⟨d, h1, h2⟩ := this; show P (g v) _; rw [sSeq_app, sRet_app, h1]; exact hP v d h2
  | exc cc fs => exact ⟨_, by rw [sSeq_app, sRet_app, show f e = _ from this]⟩
  | bad => trivial
theorem j_retT {al : List Nat} {f : DL.Env → Res D} {x : Res R} {E : RE R} (h : EvR ρ f x E) : J ρ (sSeq (sRet al f) c) x (PT E) := by
  have := j_ret (ρ := ρ) (c := c) (al := al) (g := fun v => v) (P := PT E) (fun v d hd => ⟨d, hd, .inl rfl⟩) h
  cases x <;> exact this
theorem j_retL {al : List Nat} {f : DL.Env → Res D} {x : Res R} {E : RE R} {ρs : S → KEnv} (h : EvR ρ f x E) : J ρ (sSeq (sRet al f) c) (x.bind fun v => .ok (.rt v)) (PL ρs E) := j_ret (fun v d hd => ⟨d, hd, .inl rfl⟩) h
theorem j_end {ρs : S → KEnv} {s : S} (h : Sb (ρs s) ρ) : J ρ sSkip (.ok s) (PN ρs) := fun e l => ⟨e, rfl, l.less h⟩
theorem j_endB {ρs : S → KEnv} {s : S} (h : Sb (ρs s) ρ) : J ρ sSkip (.ok s) (PB ρs) := fun e l => ⟨e, .inl rfl, l.less h⟩
theorem j_endL {ρs : S → KEnv} {E : RE R} {s : S} (h : Sb (ρs s) ρ) : J ρ sSkip (.ok (.nx s)) (PL ρs E) := fun e l => ⟨e, .inl rfl, l.less h⟩
theorem j_contL {ρs : S → KEnv} {E : RE R} {s : S} (h : Sb (ρs s) ρ) : J ρ (sSeq sCont c) (.ok (.nx s)) (PL ρs E) := fun e l => ⟨e, .inr rfl, l.less h⟩
/-- a loop that may return, and what comes behind it -/
def thenX (s : Res (Oc S R)) (m : R → T) (k : S → Res T) : Res T := s.bind fun o => match o with
  | .nx x => k x
  | .rt v => .ok (m v)
  | .bk _ => .bad
theorem j_x {s : Res (Oc S R)} {E : RE R} {ρs : S → KEnv} {k : S → Res T} {m : R → T} (hP : ∀ v d o, E v d → (o = .rt d ∨ o = .ro d) → P (m v) o) (h : J ρ a s (PX ρs E)) (q : ∀ x, J (ρs x) b (k x) P) : J ρ (sSeq a b) (thenX s m k) P := fun e l => by
  have := h e l
  unfold thenX
  cases s with
  | ok x =>
    cases x with
    | nx x =>
      obtain ⟨e', h1, h2⟩ := this
      have : sSeq a b e = b e' := by unfold sSeq; rw [h1]
      show JM (k x) P (sSeq a b e)
      rw [this]
      exact q x e' h2
    | rt v =>
      obtain ⟨d, h1, h2⟩ := this
      show P (m v) (sSeq a b e)
      have : sSeq a b e = a e := by unfold sSeq; rcases h2 with h2 | h2 <;> rw [h2]
      rw [this]
      exact hP v d _ h1 h2
    | bk x => exact this.elim
  | exc cc fs => obtain ⟨e', h1⟩ := this; exact ⟨e', by unfold sSeq; rw [h1]⟩
  | bad => trivial
theorem j_xT {s : Res (Oc S R)} {E : RE R} {ρs : S → KEnv} {k : S → Res R} (h : J ρ a s (PX ρs E)) (q : ∀ x, J (ρs x) b (k x) (PT E)) : J ρ (sSeq a b) (thenX s (fun v => v) k) (PT E) :=
  j_x (fun v d o hd ho => ⟨d, hd, ho.imp (fun z => z) .inl⟩) h q
theorem j_xL {S' : Type} {s : Res (Oc S R)} {E : RE R} {ρs : S → KEnv} {ρt : S' → KEnv} {k : S → Res (Oc S' R)} (h : J ρ a s (PX ρs E)) (q : ∀ x, J (ρs x) b (k x) (PL ρt E)) : J ρ (sSeq a b) (thenX s .rt k) (PL ρt E) :=
  j_x (fun v d o hd ho => ⟨d, hd, ho⟩) h q
/-! simple statements -/
theorem g_set {al : List Nat} {i : Nat} {f : DL.Env → Res D} {E : RE α} {x : α} (h : EvR ρ f (.ok x) E) : Go ρ (sSet al i f) ((fzK al ρ).set i (some (sh E x))) := fun e l => by
  obtain ⟨d, h1, h2⟩ := h e l
  exact ⟨_, by rw [sSet_app, h1], (l.fz al).set i ⟨h2, rfl⟩⟩
theorem g_setF {al : List Nat} {i : Nat} {f : DL.Env → Res D} {E : RE α} {x : α} (h : EvR ρ f (.ok x) E) : Go ρ (sSetF al i f) ((fzK al ρ).set i (some (ow E x))) := fun e l => by
  obtain ⟨d, h1, h2⟩ := h e l
  exact ⟨_, by rw [sSetF_app, h1], (l.fz al).set i ⟨h2, rfl⟩⟩
theorem d_set {al : List Nat} {i : Nat} {f : DL.Env → Res D} {E : RE α} {x : Res α} (h : EvR ρ f x E) : J ρ (sSet al i f) x (PN fun v => (fzK al ρ).set i (some (sh E v))) := fun e l => by
  have := h e l
  cases x with
  | ok v => obtain ⟨d, h1, h2⟩ := this; exact ⟨_, by rw [sSet_app, h1], (l.fz al).set i ⟨h2, rfl⟩⟩
  | exc cc fs => exact ⟨_, by rw [sSet_app, show f e = _ from this]⟩
  | bad => trivial
theorem d_setF {al : List Nat} {i : Nat} {f : DL.Env → Res D} {E : RE α} {x : Res α} (h : EvR ρ f x E) : J ρ (sSetF al i f) x (PN fun v => (fzK al ρ).set i (some (ow E v))) := fun e l => by
  have := h e l
  cases x with
  | ok v => obtain ⟨d, h1, h2⟩ := this; exact ⟨_, by rw [sSetF_app, h1], (l.fz al).set i ⟨h2, rfl⟩⟩
  | exc cc fs => exact ⟨_, by rw [sSetF_app, show f e = _ from this]⟩
  | bad => trivial
/-- a pattern takes what is read as E, the names known as ρ then as ρ' -/
def BindR (p : Pat) (E : RE α) (x : α) (ρ ρ' : KEnv) : Prop := ∀ d e, E x d → Le ρ e → ∃ e', p.bind d e = .ok e' ∧ Le ρ' e'
theorem p_nm {i : Nat} {E : RE α} {x : α} : BindR (.nm i) E x ρ (ρ.set i (some (sh E x))) := fun d e h l => ⟨_, rfl, l.set i ⟨h, rfl⟩⟩
/-- .. a list of patterns -/
def BindsR (ps : List Pat) (Q : α → List D → Prop) (x : α) (ρ ρ' : KEnv) : Prop := ∀ ds e, Q x ds → Le ρ e → ∃ e', Pat.binds ps ds e = .ok e' ∧ Le ρ' e'
theorem ps_1 {p : Pat} {E : RE α} {x : α} (h : BindR p E x ρ ρ') : BindsR [p] (q1 E) x ρ ρ' := fun ds e ⟨d, h1, h2⟩ l => by
  obtain ⟨e', a1, a2⟩ := h d e h2 l
  subst h1
  exact ⟨e', by unfold Pat.binds; rw [a1]; rfl, a2⟩
theorem ps_c {p : Pat} {ps : List Pat} {E : RE α} {Q : β → List D → Prop} {x : α} {y : β} {ρ1 : KEnv} (h : BindR p E x ρ ρ1) (t : BindsR ps Q y ρ1 ρ') : BindsR (p :: ps) (qC E Q) (x, y) ρ ρ' := fun ds e ⟨d, r, h1, h2, h3⟩ l => by
  subst h1
  obtain ⟨e1, a1, a2⟩ := h d e h2 l
  obtain ⟨e2, b1, b2⟩ := t r e1 h3 a2
  exact ⟨e2, by unfold Pat.binds; rw [a1]; exact b1, b2⟩
/-- a pair that is a known pair's items, taken apart by name -/
theorem ps_c' {p : Pat} {ps : List Pat} {E : RE α} {Q : β → List D → Prop} {x : α × β} {ρ1 : KEnv} (h : BindR p E x.1 ρ ρ1) (t : BindsR ps Q x.2 ρ1 ρ') : BindsR (p :: ps) (qC E Q) x ρ ρ' := ps_c (x := x.1) (y := x.2) h t
/-- tuples made of items (never a module's constant) -/
def eQ {α : Type} (Q : α → List D → Prop) : RE α := fun a d => ∃ ds, d = .tup ds ∧ Q a ds
theorem p_tp {ps : List Pat} {Q : α → List D → Prop} {x : α} (h : BindsR ps Q x ρ ρ') : BindR (.tp ps) (eQ Q) x ρ ρ' := fun d e ⟨ds, h1, h2⟩ l => by
  subst h1
  exact h ds e h2 l
theorem v_tupQ {fs : DL.Env → Res (List D)} {r : Res α} {Q : α → List D → Prop} (h : EvR ρ fs r Q) : EvR ρ (eTup fs) r (eQ Q) := fun e l => by
  have := h e l
  unfold eTup
  cases r with
  | ok a => obtain ⟨d, e1, h1⟩ := this; rw [e1]; exact ⟨_, rfl, d, rfl, h1⟩
  | exc c fs' => rw [show fs e = _ from this]; rfl
  | bad => trivial
theorem d_asg {al : List Nat} {p : Pat} {f : DL.Env → Res D} {E : RE α} {x : Res α} {ρs : α → KEnv} (h : EvR ρ f x E) (hp : ∀ v, BindR p E v (fzK al ρ) (ρs v)) : J ρ (sAsg al p f) x (PN ρs) := fun e l => by
  have := h e l
  cases x with
  | ok v =>
    obtain ⟨d, h1, h2⟩ := this
    obtain ⟨e', a1, a2⟩ := hp v d _ h2 (l.fz al)
    exact ⟨e', by rw [sAsg_app, h1]; dsimp only; rw [a1], a2⟩
  | exc cc fs => exact ⟨_, by rw [sAsg_app, show f e = _ from this]⟩
  | bad => trivial
/-! ### loops -/
def forR {α S : Type} : List α → S → (α → S → Res S) → Res S
  | [], s, _ => .ok s
  | a :: l, s, f => (f a s).bind fun s' => forR l s' f
def forX {α S R : Type} : List α → S → (α → S → Res (Oc S R)) → Res (Oc S R)
  | [], s, _ => .ok (.nx s)
  | a :: l, s, f => (f a s).bind fun o => match o with
    | .nx s' => forX l s' f
    | .bk s' => .ok (.nx s')
    | .rt v => .ok (.rt v)
theorem turns_R {p : Pat} {E : RE α} {ρs : S → KEnv} {ρb : α → S → KEnv} {f : α → S → Res S} (hp : ∀ x s, BindR p E x (ρs s) (ρb x s)) (hb : ∀ x s, J (ρb x s) b (f x s) (PB ρs)) :
    ∀ {l : List α} {ds : List D} {s : S} {e : DL.Env}, A2 E l ds → Le (ρs s) e → JM (forR l s f) (PN ρs) (turns p b ds e)
  | [], ds, s, e, h, l => by rw [show ds = [] from h]; exact ⟨e, rfl, l⟩
  | x :: xs, _, s, e, ⟨d, r, rfl, h1, h2⟩, l => by
    obtain ⟨e1, a1, a2⟩ := hp x s d e h1 l
    have := hb x s e1 a2
    unfold forR turns
    rw [a1]
    cases q : f x s with
    | ok s' =>
      rw [q] at this
      obtain ⟨e2, b1, b2⟩ := this
      have ih := turns_R hp hb (s := s') h2 b2
      rw [Res.bind_ok]
      rcases b1 with b1 | b1 <;> (dsimp only; rw [b1]; exact ih)
    | exc c fs => rw [q] at this; obtain ⟨e2, b1⟩ := this; exact ⟨e2, by dsimp only; rw [b1]⟩
    | bad => trivial
theorem d_for {al : List Nat} {p : Pat} {fi : DL.Env → Res (List D)} {E : RE α} {xs : Res (List α)} {ρs : S → KEnv} {ρb : α → S → KEnv} {f : α → S → Res S} {s : S}
    (hi : EvR ρ fi xs (A2 E)) (h0 : Sb (ρs s) (fzK al ρ)) (hp : ∀ x s, BindR p E x (ρs s) (ρb x s)) (hb : ∀ x s, J (ρb x s) b (f x s) (PB ρs)) : J ρ (sFor al p fi b) (xs.bind fun l => forR l s f) (PN ρs) := fun e l => by
  have := hi e l
  cases xs with
  | ok xs =>
    obtain ⟨ds, h1, h2⟩ := this
    have t := turns_R hp hb h2 ((l.fz al).less h0)
    rw [sFor_app, h1]
    exact t
  | exc c fs => exact ⟨_, by rw [sFor_app, show fi e = _ from this]⟩
  | bad => trivial
theorem d_forP {al : List Nat} {p : Pat} {fi : DL.Env → Res (List D)} {E : RE α} {xs : List α} {ρs : S → KEnv} {ρb : α → S → KEnv} {f : α → S → Res S} {s : S}
    (hi : EvR ρ fi (.ok xs) (A2 E)) (h0 : Sb (ρs s) (fzK al ρ)) (hp : ∀ x s, BindR p E x (ρs s) (ρb x s)) (hb : ∀ x s, J (ρb x s) b (f x s) (PB ρs)) : J ρ (sFor al p fi b) (forR xs s f) (PN ρs) := d_for hi h0 hp hb
theorem turns_X {p : Pat} {E : RE α} {E' : RE R} {ρs : S → KEnv} {ρb : α → S → KEnv} {f : α → S → Res (Oc S R)} (hp : ∀ x s, BindR p E x (ρs s) (ρb x s)) (hb : ∀ x s, J (ρb x s) b (f x s) (PL ρs E')) :
    ∀ {l : List α} {ds : List D} {s : S} {e : DL.Env}, A2 E l ds → Le (ρs s) e → JM (forX l s f) (PX ρs E') (turns p b ds e)
  | [], ds, s, e, h, l => by rw [show ds = [] from h]; exact ⟨e, rfl, l⟩
  | x :: xs, _, s, e, ⟨d, r, rfl, h1, h2⟩, l => by
    obtain ⟨e1, a1, a2⟩ := hp x s d e h1 l
    have := hb x s e1 a2
    unfold forX turns
    rw [a1]
    cases q : f x s with
    | ok o =>
      rw [q] at this
      cases o with
      | nx s' =>
        obtain ⟨e2, b1, b2⟩ := this
        have ih := turns_X hp hb (s := s') h2 b2
        rw [Res.bind_ok]
        rcases b1 with b1 | b1 <;> (dsimp only; rw [b1]; exact ih)
      | bk s' =>
        obtain ⟨e2, b1, b2⟩ := this
        rw [Res.bind_ok]
        dsimp only
        rw [b1]
        exact ⟨e2, rfl, b2⟩
      | rt v =>
        obtain ⟨d, b1, b2⟩ := this
        rw [Res.bind_ok]
        dsimp only
        rcases b2 with b2 | b2 <;> rw [b2]
        · exact ⟨d, b1, .inl rfl⟩
        · exact ⟨d, b1, .inr rfl⟩
    | exc c fs => rw [q] at this; obtain ⟨e2, b1⟩ := this; exact ⟨e2, by dsimp only; rw [b1]⟩
    | bad => trivial
theorem d_forX {al : List Nat} {p : Pat} {fi : DL.Env → Res (List D)} {E : RE α} {E' : RE R} {xs : Res (List α)} {ρs : S → KEnv} {ρb : α → S → KEnv} {f : α → S → Res (Oc S R)} {s : S}
    (hi : EvR ρ fi xs (A2 E)) (h0 : Sb (ρs s) (fzK al ρ)) (hp : ∀ x s, BindR p E x (ρs s) (ρb x s)) (hb : ∀ x s, J (ρb x s) b (f x s) (PL ρs E')) : J ρ (sFor al p fi b) (xs.bind fun l => forX l s f) (PX ρs E') := fun e l => by
  have := hi e l
  cases xs with
  | ok xs =>
    obtain ⟨ds, h1, h2⟩ := this
    have t := turns_X hp hb h2 ((l.fz al).less h0)
    rw [sFor_app, h1]
    exact t
  | exc c fs => exact ⟨_, by rw [sFor_app, show fi e = _ from this]⟩
  | bad => trivial
/-! while -/
/-! ### comprehensions -/
/-- so long that a list of them can be made -/
def Fits (n : Nat) : Prop := n ≤ sizeLine
def mapR {α β : Type} : List α → (α → Res β) → Res (List β)
  | [], _ => .ok []
  | a :: l, f => (f a).bind fun y => (mapR l f).bind fun ys => .ok (y :: ys)
def filR {α β : Type} : List α → (α → Res Bool) → (α → Res β) → Res (List β)
  | [], _, _ => .ok []
  | a :: l, c, f => (c a).bind fun z => if z = true then (f a).bind fun y => (filR l c f).bind fun ys => .ok (y :: ys) else filR l c f
/-- errors within a comprehension are not told -/
def Res.noX {α : Type} : Res α → Res α
  | .exc _ _ => .bad
  | r => r
open Classical in
noncomputable def compR {α β : Type} (l : List α) (f : α → Res β) : Res (List β) := if Fits l.length then (mapR l f).noX else .bad
open Classical in
noncomputable def compF {α β : Type} (l : List α) (c : α → Res Bool) (f : α → Res β) : Res (List β) := if Fits l.length then (filR l c f).noX else .bad
theorem compL_R {p : Pat} {ft : DL.Env → Res Bool} {fe : DL.Env → Res D} {E : RE α} {E' : RE β} {ρ : KEnv} {ρb : α → KEnv} {c : α → Res Bool} {f : α → Res β} (hp : ∀ x, BindR p E x ρ (ρb x)) (hc : ∀ x, EvR (ρb x) ft (c x) Tr) (he : ∀ x, EvR (ρb x) fe (f x) E') :
    ∀ {l : List α} {ds : List D} {e : DL.Env} {ys : List β}, A2 E l ds → Le ρ e → filR l c f = .ok ys → ∃ es, compL e p ft fe ds = .ok es ∧ A2 E' ys es
  | [], ds, e, ys, h, l, q => by
    rw [show ds = [] from h]
    cases (show Res.ok [] = Res.ok ys from q)
    exact ⟨[], rfl, rfl⟩
  | x :: xs, _, e, ys, ⟨d, r, rfl, h1, h2⟩, l, q => by
    obtain ⟨e1, a1, a2⟩ := hp x d e h1 l
    have b1 := hc x e1 a2
    unfold filR at q
    unfold compL
    rw [a1]
    cases hz : c x with
    | ok z =>
      rw [hz, Res.bind_ok] at q
      rw [hz] at b1
      obtain ⟨z', c1, c2⟩ := b1
      dsimp only
      rw [c1, show z' = z from c2]
      cases z with
      | false =>
        rw [if_neg (by simp)] at q
        exact compL_R hp hc he h2 l q
      | true =>
        rw [if_pos rfl] at q
        have b2 := he x e1 a2
        cases hy : f x with
        | ok y =>
          rw [hy, Res.bind_ok] at q
          rw [hy] at b2
          obtain ⟨y', d1, d2⟩ := b2
          cases hr : filR xs c f with
          | ok zs =>
            rw [hr, Res.bind_ok] at q
            cases q
            obtain ⟨es, f1, f2⟩ := compL_R hp hc he h2 l hr
            exact ⟨y' :: es, by dsimp only; rw [d1]; dsimp only; rw [f1]; rfl, y', es, rfl, d2, f2⟩
          | exc cc fs => rw [hr] at q; cases q
          | bad => rw [hr] at q; cases q
        | exc cc fs => rw [hy] at q; cases q
        | bad => rw [hy] at q; cases q
    | exc cc fs => rw [hz] at q; cases q
    | bad => rw [hz] at q; cases q
theorem filR_yes (f : α → Res β) : ∀ l : List α, filR l (fun _ => .ok true) f = mapR l f
  | [] => rfl
  | a :: l => by
    unfold filR mapR
    rw [Res.bind_ok, if_pos rfl, filR_yes f l]
theorem v_compF {own : List Nat} {p : Pat} {fi : DL.Env → Res (List D)} {ft : DL.Env → Res Bool} {fe : DL.Env → Res D} {E : RE α} {E' : RE β} {xs : Res (List α)} {ρb : α → KEnv} {c : α → Res Bool} {f : α → Res β} (hi : EvR ρ fi xs (A2 E))
    (hp : ∀ x, BindR p E x (wipeK ρ own) (ρb x)) (hc : ∀ x, EvR (ρb x) ft (c x) Tr) (he : ∀ x, EvR (ρb x) fe (f x) E') : EvR ρ (eComp own p fi ft fe) (xs.bind fun l => compF l c f) (eL E') := fun e l => by
  unfold eComp
  refine (hi e l).bind fun xs ds h => ?_
  unfold compF
  by_cases hl : Fits xs.length
  · rw [if_pos hl]
    cases q : filR xs c f with
    | ok ys =>
      obtain ⟨es, h1, h2⟩ := compL_R hp hc he h (l.wipe own) q
      rw [if_pos (by rw [A2.length h]; exact hl), h1]
      exact ⟨_, rfl, es, rfl, h2⟩
    | exc cc fs => trivial
    | bad => trivial
  · rw [if_neg hl]; trivial
theorem v_compFP {own : List Nat} {p : Pat} {fi : DL.Env → Res (List D)} {ft : DL.Env → Res Bool} {fe : DL.Env → Res D} {E : RE α} {E' : RE β} {xs : List α} {ρb : α → KEnv} {c : α → Res Bool} {f : α → Res β} (hi : EvR ρ fi (.ok xs) (A2 E))
    (hp : ∀ x, BindR p E x (wipeK ρ own) (ρb x)) (hc : ∀ x, EvR (ρb x) ft (c x) Tr) (he : ∀ x, EvR (ρb x) fe (f x) E') : EvR ρ (eComp own p fi ft fe) (compF xs c f) (eL E') := v_compF hi hp hc he
theorem v_comp {own : List Nat} {p : Pat} {fi : DL.Env → Res (List D)} {fe : DL.Env → Res D} {E : RE α} {E' : RE β} {xs : Res (List α)} {ρb : α → KEnv} {f : α → Res β} (hi : EvR ρ fi xs (A2 E))
    (hp : ∀ x, BindR p E x (wipeK ρ own) (ρb x)) (he : ∀ x, EvR (ρb x) fe (f x) E') : EvR ρ (eComp own p fi bYes fe) (xs.bind fun l => compR l f) (eL E') := by
  have := v_compF (c := fun _ => .ok true) hi hp (fun x e l => ⟨true, rfl, rfl⟩) he
  have q : (fun l => compF l (fun _ => .ok true) f) = fun l => compR l f := by
    funext l
    unfold compF compR
    rw [filR_yes]
  rw [q] at this
  exact this
theorem v_compP {own : List Nat} {p : Pat} {fi : DL.Env → Res (List D)} {fe : DL.Env → Res D} {E : RE α} {E' : RE β} {xs : List α} {ρb : α → KEnv} {f : α → Res β} (hi : EvR ρ fi (.ok xs) (A2 E))
    (hp : ∀ x, BindR p E x (wipeK ρ own) (ρb x)) (he : ∀ x, EvR (ρb x) fe (f x) E') : EvR ρ (eComp own p fi bYes fe) (compR xs f) (eL E') := v_comp hi hp he
/-! ### defs -/
theorem Le.rep : ∀ n, Le (List.replicate n none) (List.replicate n none)
  | 0 => rfl
  | n + 1 => ⟨none, List.replicate n none, rfl, fun P h => (by cases h), Le.rep n⟩
def LeA (ds : List D) (ρ : KEnv) : Prop := A2 (fun (r : Option Kn) (d : D) => ∀ P, r = some P → P d false) ρ ds
theorem LeA.nil : LeA [] [] := rfl
theorem LeA.cons {E : RE α} {x : α} {d : D} {ds : List D} {ρ : KEnv} (h : E x d) (t : LeA ds ρ) : LeA (d :: ds) (some (sh E x) :: ρ) := ⟨d, ds, rfl, fun P hP => by cases hP; exact ⟨h, rfl⟩, t⟩
theorem LeA.le : ∀ {ds : List D} {ρ : KEnv} {n : Nat}, LeA ds ρ → Le (ρ ++ List.replicate n none) (ds.map (fun d => some (d, false)) ++ List.replicate n none)
  | ds, [], n, h => by rw [show ds = [] from h]; exact Le.rep n
  | _, r :: ρ, n, ⟨d, ds, rfl, h, t⟩ => ⟨some (d, false), _, rfl, fun P hP => ⟨d, false, rfl, h P hP⟩, LeA.le t⟩
theorem r_def {n m k : Nat} {fb : DL.Env → Out} {ds : List D} {x : Res R} {E : RE R} (h : LeA ds ρ) (hk : m - n = k) (j : J (ρ ++ List.replicate k none) fb x (PT E)) : Rf (runDef n m fb ds) x E := by
  subst hk
  have := j _ h.le
  unfold runDef env0
  cases x with
  | ok v =>
    obtain ⟨d, h1, h2⟩ := this
    rcases h2 with h2 | h2 | ⟨⟨e, h2⟩, h3⟩
    · rw [h2]; exact ⟨d, rfl, h1⟩
    · rw [h2]; exact ⟨d, rfl, h1⟩
    · rw [h2]; subst h3; exact ⟨_, rfl, h1⟩
  | exc c fs => obtain ⟨e', h2⟩ := this; rw [h2]; rfl
  | bad => trivial
end
end DL

/-! Typed readings: the operations. -/
namespace DL
open PySem PySem.Spec PyProof.Rows L2
open PySem.Builtin.Int (intBits)

/-! ### whole numbers -/
def MulOk (i j : Int) : Prop := intBits i + intBits j ≤ big
open Classical in
noncomputable def mulR (i j : Int) : Res Int := if MulOk i j then .ok (i * j) else .bad
open Classical in
noncomputable def modR (i j : Int) : Res Int := if j ≠ 0 then .ok (i.fmod j) else .bad
theorem mulR_ok {n m : Nat} {i j : Int} (h : Sm n i) (k : Sm m j) (l : n + m ≤ big) : mulR i j = .ok (i * j) := if_pos (h.two k l)
theorem modR_pos {i j : Int} (h : 0 < j) : modR i j = .ok (i % j) := by
  unfold modR
  rw [if_pos (by omega), Int.fmod_eq_emod_of_nonneg _ (by omega)]
section
variable {α β γ : Type}
theorem o_add (a b : Int) : ∀ x y, eI a x → eI b y → Rf (dAdd x y) (.ok (a + b)) eI := by rintro _ _ rfl rfl; exact ⟨_, rfl, rfl⟩
theorem o_sub (a b : Int) : ∀ x y, eI a x → eI b y → Rf (dSub x y) (.ok (a - b)) eI := by rintro _ _ rfl rfl; exact ⟨_, rfl, rfl⟩
theorem o_mul (a b : Int) : ∀ x y, eI a x → eI b y → Rf (dMul x y) (mulR a b) eI := by
  rintro _ _ rfl rfl
  unfold mulR
  by_cases h : MulOk a b
  · rw [if_pos h]; exact ⟨_, if_pos h, rfl⟩
  · rw [if_neg h]; trivial
theorem o_mod (a b : Int) : ∀ x y, eI a x → eI b y → Rf (dMod x y) (modR a b) eI := by
  rintro _ _ rfl rfl
  unfold modR
  by_cases h : b ≠ 0
  · rw [if_pos h]; exact ⟨_, if_pos h, rfl⟩
  · rw [if_neg h]; trivial
/-- by a written number above nought -/
theorem o_divL {b : Int} (a : Int) (h : 0 < b) (k : b < 18446744073709551616) : ∀ x y, eI a x → eI b y → Rf (dDiv x y) (.ok (a / b)) eI := by
  rintro _ _ rfl rfl; exact ⟨_, dDiv_lit _ _ h k, rfl⟩
theorem o_modL {b : Int} (a : Int) (h : 0 < b) : ∀ x y, eI a x → eI b y → Rf (dMod x y) (.ok (a % b)) eI := by
  rintro _ _ rfl rfl; exact ⟨_, dMod_lit _ _ h, rfl⟩
theorem o_powL {a b c : Int} (h : dPow (.int a) (.int b) = .ok (.int c)) : ∀ x y, eI a x → eI b y → Rf (dPow x y) (.ok c) eI := by
  rintro _ _ rfl rfl; exact ⟨_, h, rfl⟩
theorem v_neg {ρ : KEnv} {f : DL.Env → Res D} {a : Int} (h : EvR ρ f (.ok a) eI) : EvR ρ (eNeg f) (.ok (-a)) eI := fun e l => by
  obtain ⟨d, h1, h2⟩ := h e l
  exact ⟨_, by rw [eNeg_app, h1, show d = _ from h2]; rfl, rfl⟩
theorem o_lt (a b : Int) : ∀ x y, eI a x → eI b y → Rf (dLt x y) (.ok (decide (a < b))) eB := by rintro _ _ rfl rfl; exact ⟨_, dLt_int a b, rfl⟩
theorem o_le (a b : Int) : ∀ x y, eI a x → eI b y → Rf (dLe x y) (.ok (decide (a ≤ b))) eB := by rintro _ _ rfl rfl; exact ⟨_, dLe_int a b, rfl⟩
theorem o_gt (a b : Int) : ∀ x y, eI a x → eI b y → Rf (dGt x y) (.ok (decide (b < a))) eB := by rintro _ _ rfl rfl; exact ⟨_, dGt_int a b, rfl⟩
theorem o_ge (a b : Int) : ∀ x y, eI a x → eI b y → Rf (dGe x y) (.ok (decide (b ≤ a))) eB := by rintro _ _ rfl rfl; exact ⟨_, dGe_int a b, rfl⟩
theorem o_max (a b : Int) : ∀ x y, eI a x → eI b y → Rf (dMax x y) (.ok (max a b)) eI := by
  rintro _ _ rfl rfl
  refine ⟨_, dMax_int a b, ?_⟩
  show D.int _ = D.int _
  congr 1
  split <;> omega
theorem o_intB (b : Bool) : ∀ x, eB b x → Rf (dInt x) (.ok (if b = true then 1 else 0)) eI := by rintro _ rfl; exact ⟨_, rfl, rfl⟩
/-! ### equality -/
structure EqE {α : Type} [DecidableEq α] (E : RE α) (n : Nat) : Prop where
  pl : ∀ a d, E a d → d.pl n = true
  beq : ∀ a b x y, E a x → E b y → PyData.eqv x.py y.py = decide (a = b)
structure EqQ {α : Type} [DecidableEq α] (Q : α → List D → Prop) (n : Nat) : Prop where
  pl : ∀ a d, Q a d → D.pls d n = true
  beq : ∀ a b x y, Q a x → Q b y → PyData.eqvAll (D.pys x) (D.pys y) = decide (a = b)
theorem EqE.int (n : Nat) : EqE eI n := ⟨by rintro a _ rfl; rfl, by
  rintro a b _ _ rfl rfl
  simp [D.py, PyData.eqv]
  exact Bool.eq_iff_iff.mpr (by simp)⟩
theorem EqE.bl (n : Nat) : EqE eB n := ⟨by rintro a _ rfl; rfl, by
  rintro a b _ _ rfl rfl
  cases a <;> cases b <;> rfl⟩
theorem EqE.row (n : Nat) : EqE eR (n + 1) := ⟨by rintro a _ rfl; exact ans_pl a n, by rintro a b _ _ rfl rfl; exact beq_ans a b⟩
theorem a2_pls [DecidableEq α] {E : RE α} {n : Nat} (h : EqE E n) : ∀ {l : List α} {ds : List D}, A2 E l ds → D.pls ds n = true
  | [], _, e => by rw [show _ = [] from e]; rfl
  | a :: l, _, ⟨d, r, rfl, x, y⟩ => by rw [D.pls, h.pl a d x, a2_pls h y]; rfl
theorem a2_eqvs [DecidableEq α] {E : RE α} {n : Nat} (h : EqE E n) : ∀ {l l' : List α} {ds es : List D}, A2 E l ds → A2 E l' es → PyData.eqvAll (D.pys ds) (D.pys es) = decide (l = l')
  | [], [], _, _, e, f => by rw [show _ = [] from e, show _ = [] from f]; simp [D.pys, PyData.eqvAll]
  | [], _ :: _, _, _, e, ⟨d, r, rfl, _, _⟩ => by rw [show _ = [] from e]; simp [D.pys, PyData.eqvAll]
  | _ :: _, [], _, _, ⟨d, r, rfl, _, _⟩, f => by rw [show _ = [] from f]; simp [D.pys, PyData.eqvAll]
  | a :: l, b :: l', _, _, ⟨d, r, rfl, x1, x2⟩, ⟨d', r', rfl, y1, y2⟩ => by
    simp only [D.pys, PyData.eqvAll, h.beq a b d d' x1 y1, a2_eqvs h x2 y2]
    by_cases h1 : a = b <;> by_cases h2 : l = l' <;> simp [h1, h2]
theorem EqE.lst [DecidableEq α] {E : RE α} {n : Nat} (h : EqE E n) : EqE (eL E) (n + 1) := ⟨by
  rintro a _ ⟨ds, rfl, r⟩; exact a2_pls h r, by
  rintro a b _ _ ⟨ds, rfl, r⟩ ⟨es, rfl, s⟩
  rw [D.py, D.py, PyData.eqv]; exact a2_eqvs h r s⟩
theorem EqE.tup [DecidableEq α] {E : RE α} {n : Nat} (h : EqE E n) : EqE (eT E) (n + 1) := ⟨by
  rintro a _ ⟨ds, rfl, r⟩; exact a2_pls h r, by
  rintro a b _ _ ⟨ds, rfl, r⟩ ⟨es, rfl, s⟩
  rw [D.py, D.py, PyData.eqv]; exact a2_eqvs h r s⟩
theorem EqQ.one [DecidableEq α] {E : RE α} {n : Nat} (h : EqE E n) : EqQ (q1 E) n := ⟨by
  rintro a _ ⟨d, rfl, r⟩; simp [D.pls, h.pl a d r], by
  rintro a b _ _ ⟨d, rfl, r⟩ ⟨d', rfl, r'⟩
  simp only [D.pys, PyData.eqvAll, h.beq a b d d' r r', Bool.and_true]⟩
theorem EqQ.c [DecidableEq α] [DecidableEq β] {E : RE α} {Q : β → List D → Prop} {n : Nat} (h : EqE E n) (k : EqQ Q n) : EqQ (qC E Q) n := ⟨by
  rintro a _ ⟨d, r, rfl, h1, h2⟩; simp [D.pls, h.pl _ d h1, k.pl _ r h2], by
  rintro a b _ _ ⟨d, r, rfl, h1, h2⟩ ⟨d', r', rfl, h3, h4⟩
  simp only [D.pys, PyData.eqvAll, h.beq _ _ d d' h1 h3, k.beq _ _ r r' h2 h4]
  obtain ⟨a1, a2⟩ := a
  obtain ⟨b1, b2⟩ := b
  by_cases h1 : a1 = b1 <;> by_cases h2 : a2 = b2 <;> simp [h1, h2]⟩
theorem EqE.q [DecidableEq α] {Q : α → List D → Prop} {n : Nat} (h : EqQ Q n) : EqE (eQ Q) (n + 1) := ⟨by
  rintro a _ ⟨ds, rfl, r⟩; exact h.pl _ _ r, by
  rintro a b _ _ ⟨ds, rfl, r⟩ ⟨es, rfl, s⟩
  rw [D.py, D.py, PyData.eqv]; exact h.beq _ _ _ _ r s⟩
theorem dEq_of {x y : D} {b : Bool} (h : x.pl 60 = true) (k : y.pl 60 = true) (e : PyData.eqv x.py y.py = b) : dEq x y = .ok (.bl b) := by
  cases x with
  | str s =>
    cases y with
    | str t =>
      subst e
      simp [dEq, D.py, PyData.eqv]
      exact Bool.eq_iff_iff.mpr (by simp)
    | _ => simp only [dEq]; rw [if_pos ⟨h, k⟩, D.beq, e]
  | _ => simp only [dEq]; rw [if_pos ⟨h, k⟩, D.beq, e]
theorem dNe_of {x y : D} {b : Bool} (h : x.pl 60 = true) (k : y.pl 60 = true) (e : PyData.eqv x.py y.py = b) : dNe x y = .ok (.bl (!b)) := by
  cases x with
  | str s =>
    cases y with
    | str t =>
      subst e
      simp [dNe, D.py, PyData.eqv]
      exact Bool.eq_iff_iff.mpr (by simp)
    | _ => simp only [dNe]; rw [if_pos ⟨h, k⟩, D.beq, e]
  | _ => simp only [dNe]; rw [if_pos ⟨h, k⟩, D.beq, e]
theorem o_eq [DecidableEq α] {E : RE α} (h : EqE E 60) (a b : α) : ∀ x y, E a x → E b y → Rf (dEq x y) (.ok (decide (a = b))) eB := fun x y hx hy =>
  ⟨_, dEq_of (h.pl a x hx) (h.pl b y hy) (h.beq a b x y hx hy), rfl⟩
theorem o_ne [DecidableEq α] {E : RE α} (h : EqE E 60) (a b : α) : ∀ x y, E a x → E b y → Rf (dNe x y) (.ok (decide (a ≠ b))) eB := fun x y hx hy =>
  ⟨_, dNe_of (h.pl a x hx) (h.pl b y hy) (h.beq a b x y hx hy), by simp [eB]⟩
/-! ### raw data -/
def rawB (r : Res D) : Res Bool := r.bind D.asB
theorem o_raw (g : D → D → Res D) (a b : D) : ∀ x y, eD a x → eD b y → Rf (g x y) (g a b) eD := by
  rintro _ _ rfl rfl
  cases g _ _ with
  | ok d => exact ⟨d, rfl, rfl⟩
  | exc c fs => rfl
  | bad => trivial
theorem rf_rawB (r : Res D) : Rf r (rawB r) eB := by
  unfold rawB
  cases r with
  | ok d =>
    cases d with
    | bl b => exact ⟨_, rfl, rfl⟩
    | _ => trivial
  | exc c fs => rfl
  | bad => trivial
theorem o_rawB (g : D → D → Res D) (a b : D) : ∀ x y, eD a x → eD b y → Rf (g x y) (rawB (g a b)) eB := by
  rintro _ _ rfl rfl
  exact rf_rawB _
theorem o_raw1 (g : D → Res D) (a : D) : ∀ x, eD a x → Rf (g x) (g a) eD := by
  rintro _ rfl
  cases g _ with
  | ok d => exact ⟨d, rfl, rfl⟩
  | exc c fs => rfl
  | bad => trivial
theorem o_raw1B (g : D → Res D) (a : D) : ∀ x, eD a x → Rf (g x) (rawB (g a)) eB := by
  rintro _ rfl
  exact rf_rawB _
def D.asI : D → Res Int
  | .int i => .ok i
  | _ => .bad
def D.asS : D → Res Str
  | .str i => .ok i
  | _ => .bad
def D.asItems : D → Res (List D)
  | .lst xs => .ok xs
  | .tup xs => .ok xs
  | .con xs => .ok xs
  | _ => .bad
def D.asL : D → Res (List D)
  | .lst xs => .ok xs
  | _ => .bad
def D.asT : D → Res (List D)
  | .tup xs => .ok xs
  | _ => .bad
def asIs : List D → Res (List Int)
  | [] => .ok []
  | .int i :: r => (asIs r).bind fun l => .ok (i :: l)
  | _ => .bad
def D.asR : D → Res (List Int)
  | .tup xs => asIs xs
  | _ => .bad
@[simp] theorem asIs_ints : ∀ l : List Int, asIs (l.map D.int) = .ok l
  | [] => rfl
  | i :: l => by rw [List.map_cons, asIs, asIs_ints l]; rfl
@[simp] theorem asR_ans (l : List Int) : D.asR (ans l) = .ok l := asIs_ints l
section
variable {ρ : KEnv} {f : DL.Env → Res D} {r : Res D}
theorem v_asI (h : EvR ρ f r eD) : EvR ρ f (r.bind D.asI) eI := v_as h (fun a d c h1 h2 => by
  rw [show d = a from h1]; cases a <;> cases h2; rfl) fun a c fs h => by cases a <;> cases h
theorem v_asS (h : EvR ρ f r eD) : EvR ρ f (r.bind D.asS) eS := v_as h (fun a d c h1 h2 => by
  rw [show d = a from h1]; cases a <;> cases h2; rfl) fun a c fs h => by cases a <;> cases h
theorem v_asL (h : EvR ρ f r eD) : EvR ρ f (r.bind D.asL) (eL eD) := v_as h (fun a d c h1 h2 => by
  rw [show d = a from h1]; cases a <;> cases h2; exact ⟨_, rfl, A2.fn.mpr (by simp)⟩) fun a c fs h => by cases a <;> cases h
theorem v_asT (h : EvR ρ f r eD) : EvR ρ f (r.bind D.asT) (eT eD) := v_as h (fun a d c h1 h2 => by
  rw [show d = a from h1]; cases a <;> cases h2; exact ⟨_, rfl, A2.fn.mpr (by simp)⟩) fun a c fs h => by cases a <;> cases h
/-- what is walked, raw -/
theorem v_seqD (h : EvR ρ f r eD) : EvR ρ (iSeq f) (r.bind D.asItems) (A2 eD) := fun e l => by
  rw [iSeq_app]
  exact (h e l).bind fun a d hd => by
    rw [show d = a from hd]
    cases a <;> first | trivial | exact ⟨_, rfl, A2.fn.mpr (by simp)⟩
end
/-! ### lists and tuples -/
def getL {α : Type} (l : List α) (i : Int) : Res α := match atI l i with
  | some a => .ok a
  | none => .bad
theorem atI_A2 {E : RE α} {l : List α} {ds : List D} (h : A2 E l ds) {i : Int} {a : α} (q : atI l i = some a) : ∃ d, atI ds i = some d ∧ E a d := by
  unfold atI at q ⊢
  rw [h.length]
  cases k : ixN l.length i with
  | none => rw [k] at q; cases q
  | some j => rw [k] at q; exact h.get q
theorem o_ixA {x : D} (h : ∀ t kvs, x ≠ .dct t kvs) (y : D) : dIxA x y = dIx x y := by
  unfold dIxA
  cases x with
  | dct t kvs => exact absurd rfl (h t kvs)
  | _ => rfl
theorem o_ixL {E : RE α} (l : List α) (i : Int) : ∀ x y, eL E l x → eI i y → Rf (dIx x y) (getL l i) E := by
  rintro _ _ ⟨ds, rfl, r⟩ rfl
  unfold getL
  cases q : atI l i with
  | none => trivial
  | some a => obtain ⟨d, h1, h2⟩ := atI_A2 r q; exact ⟨d, by simp [dIx, h1], h2⟩
theorem o_ixT {E : RE α} (l : List α) (i : Int) : ∀ x y, eT E l x → eI i y → Rf (dIx x y) (getL l i) E := by
  rintro _ _ ⟨ds, rfl, r⟩ rfl
  unfold getL
  cases q : atI l i with
  | none => trivial
  | some a => obtain ⟨d, h1, h2⟩ := atI_A2 r q; exact ⟨d, by simp [dIx, h1], h2⟩
theorem o_ixAL {E : RE α} (l : List α) (i : Int) : ∀ x y, eL E l x → eI i y → Rf (dIxA x y) (getL l i) E := fun x y h k => by
  rw [o_ixA (by obtain ⟨ds, rfl, r⟩ := h; intros; simp)]
  exact o_ixL l i x y h k
@[simp] theorem getL_zero (a : α) (l : List α) : getL (a :: l) 0 = .ok a := by simp [getL, atI, ixN]
theorem getL_nat {l : List α} {i : Nat} {a : α} (h : l[i]? = some a) : getL l (i : Int) = .ok a := by
  unfold getL
  rw [atI_nat h]
theorem getL_last (l : List α) (a : α) : getL (l ++ [a]) (-1) = .ok a := by
  unfold getL
  rw [atI_last]
/-- some item stands at every place, told from either end -/
theorem getL_mem {l : List α} {i : Int} (h : -(l.length : Int) ≤ i) (k : i < l.length) : ∃ a ∈ l, getL l i = .ok a := by
  obtain ⟨j, a, b⟩ := ixN_of h k
  exact ⟨l[j], List.getElem_mem _, by simp [getL, atI, a, b]⟩
/-- items of tuples of a known form -/
def IxQ {α β : Type} (Q : α → List D → Prop) (k : Nat) (E : RE β) (f : α → β) : Prop := ∀ a ds, Q a ds → ∃ d, ds[k]? = some d ∧ E (f a) d
theorem IxQ.z {E : RE α} {Q : β → List D → Prop} : IxQ (qC E Q) 0 E (·.1) := fun a ds ⟨d, r, h, h1, _⟩ => ⟨d, by rw [h]; rfl, h1⟩
theorem IxQ.l {E : RE α} : IxQ (q1 E) 0 E (fun a => a) := fun a ds ⟨d, h, h1⟩ => ⟨d, by rw [h]; rfl, h1⟩
theorem IxQ.s {E' : RE γ} {Q : α → List D → Prop} {k : Nat} {E : RE β} {f : α → β} (h : IxQ Q k E f) : IxQ (qC E' Q) (k + 1) E (fun p => f p.2) := fun a ds ⟨d, r, e, _, h1⟩ => by
  obtain ⟨x, a1, a2⟩ := h _ _ h1
  exact ⟨x, by rw [e]; exact a1, a2⟩
theorem o_ixQ {Q : α → List D → Prop} {k : Nat} {E : RE β} {f : α → β} (h : IxQ Q k E f) (a : α) : ∀ x y, eQ Q a x → eI (k : Int) y → Rf (dIx x y) (.ok (f a)) E := by
  rintro _ _ ⟨ds, rfl, q⟩ rfl
  obtain ⟨d, a1, a2⟩ := h a ds q
  exact ⟨d, by simp [dIx, atI_nat a1], a2⟩
theorem r_t (a : List Int) : ∀ d, eR a d → eT eI a d := fun d h => ⟨_, h, A2.fn.mpr rfl⟩
theorem t_r (a : List Int) : ∀ d, eT eI a d → eR a d := fun d ⟨ds, h, r⟩ => by rw [h, A2.fn.mp r]; rfl
theorem o_lenL {E : RE α} (l : List α) : ∀ x, eL E l x → Rf (dLen x) (.ok (l.length : Int)) eI := by rintro _ ⟨ds, rfl, r⟩; exact ⟨_, rfl, by rw [← r.length]; rfl⟩
theorem o_lenT {E : RE α} (l : List α) : ∀ x, eT E l x → Rf (dLen x) (.ok (l.length : Int)) eI := by rintro _ ⟨ds, rfl, r⟩; exact ⟨_, rfl, by rw [← r.length]; rfl⟩
theorem o_lenR (l : List Int) : ∀ x, eR l x → Rf (dLen x) (.ok (l.length : Int)) eI := by rintro _ rfl; exact ⟨_, rfl, by simp [eI]⟩
theorem o_tupL {E : RE α} (l : List α) : ∀ x, eL E l x → Rf (dTuple x) (.ok l) (eT E) := by rintro _ ⟨ds, rfl, r⟩; exact ⟨_, rfl, ds, rfl, r⟩
theorem o_tupLR (l : List Int) : ∀ x, eL eI l x → Rf (dTuple x) (.ok l) eR := by rintro _ ⟨ds, rfl, r⟩; exact ⟨_, rfl, by rw [A2.fn.mp r]; rfl⟩
theorem o_lstT {E : RE α} (l : List α) : ∀ x, eT E l x → Rf (dList x) (.ok l) (eL E) := by rintro _ ⟨ds, rfl, r⟩; exact ⟨_, rfl, ds, rfl, r⟩
open Classical in
noncomputable def catR {α : Type} (a b : List α) : Res (List α) := if Fits (a.length + b.length) then .ok (a ++ b) else .bad
theorem rf_cat {E : RE α} {a b : List α} {ds es : List D} (h : A2 E a ds) (k : A2 E b es) {x : Res D} {C : List D → D} (hx : ds.length + es.length ≤ sizeLine → x = .ok (C (ds ++ es))) {E' : RE (List α)} (hc : ∀ l ds, A2 E l ds → E' l (C ds)) : Rf x (catR a b) E' := by
  unfold catR
  by_cases q : Fits (a.length + b.length)
  · rw [if_pos q]; exact ⟨_, hx (by rw [h.length, k.length]; exact q), hc _ _ (h.append k)⟩
  · rw [if_neg q]; trivial
theorem o_catL {E : RE α} (a b : List α) : ∀ x y, eL E a x → eL E b y → Rf (dAdd x y) (catR a b) (eL E) := by rintro _ _ ⟨ds, rfl, r⟩ ⟨es, rfl, s⟩; exact rf_cat (C := D.lst) r s (fun h => if_pos h) fun l ds h => ⟨ds, rfl, h⟩
section
variable {ρ : KEnv} {f g : DL.Env → Res D}
/-! slices -/
theorem cutL_A2 {E : RE α} {l : List α} {ds : List D} (h : A2 E l ds) (lo hi : Option Int) : A2 E (cutL l lo hi) (cutL ds lo hi) := by
  unfold cutL
  rw [h.length]
  exact (h.drop _).take _
def Eqv {α : Type} : α → α → Prop := fun a b => b = a
theorem vo_n : EvR ρ oNone (.ok none) Eqv := fun e l => ⟨none, rfl, rfl⟩
theorem vo_s {i : Int} (h : EvR ρ f (.ok i) eI) : EvR ρ (oSome f) (.ok (some i)) Eqv := fun e l => by
  obtain ⟨d, h1, h2⟩ := h e l
  exact ⟨some i, by rw [oSome_app, h1, show d = _ from h2]; rfl, rfl⟩
variable {fl fh : DL.Env → Res (Option Int)} {lo hi : Option Int}
theorem v_cutL {E : RE α} {r : Res (List α)} (h : EvR ρ f r (eL E)) (hl : EvR ρ fl (.ok lo) Eqv) (hh : EvR ρ fh (.ok hi) Eqv) : EvR ρ (eCut f fl fh) (r.bind fun l => .ok (cutL l lo hi)) (eL E) := fun e l => by
  rw [eCut_app]
  refine (h e l).bind fun xs d ⟨ds, h1, h2⟩ => ?_
  obtain ⟨_, a1, rfl⟩ := hl e l
  obtain ⟨_, b1, rfl⟩ := hh e l
  rw [a1, b1, h1]
  exact ⟨_, rfl, _, rfl, cutL_A2 h2 _ _⟩
theorem v_cutD {r : Res D} (h : EvR ρ f r eD) (hl : EvR ρ fl (.ok lo) Eqv) (hh : EvR ρ fh (.ok hi) Eqv) : EvR ρ (eCut f fl fh) (r.bind fun d => dCut lo hi d) eD := fun e l => by
  rw [eCut_app]
  refine (h e l).bind fun x d hd => ?_
  obtain ⟨_, a1, rfl⟩ := hl e l
  obtain ⟨_, b1, rfl⟩ := hh e l
  rw [a1, b1, show d = x from hd]
  exact o_raw1 (dCut _ _) x x rfl
/-! what is walked -/
theorem v_seqL {E : RE α} {r : Res (List α)} (h : EvR ρ f r (eL E)) : EvR ρ (iSeq f) r (A2 E) := fun e l => by
  have := h e l
  rw [iSeq_app]
  cases r with
  | ok a => obtain ⟨d, e1, ds, rfl, h1⟩ := this; rw [e1]; exact ⟨ds, rfl, h1⟩
  | exc c fs => rw [show f e = _ from this]; rfl
  | bad => trivial
theorem v_seqT {E : RE α} {r : Res (List α)} (h : EvR ρ f r (eT E)) : EvR ρ (iSeq f) r (A2 E) := fun e l => by
  have := h e l
  rw [iSeq_app]
  cases r with
  | ok a => obtain ⟨d, e1, ds, rfl, h1⟩ := this; rw [e1]; exact ⟨ds, rfl, h1⟩
  | exc c fs => rw [show f e = _ from this]; rfl
  | bad => trivial
def rangeI (lo hi : Int) : List Int := (List.range (hi - lo).toNat).map fun i => lo + (i : Nat)
open Classical in
noncomputable def rng1 (n : Int) : Res (List Int) := if Rg n then .ok (rangeI 0 n) else .bad
theorem rangeI_A2 (m n : Int) : A2 eI (rangeI m n) (rangeD m n) := A2.fn.mpr (by unfold rangeI rangeD; rw [List.map_map]; rfl)
theorem v_rng1 {r : Res Int} (h : EvR ρ f r eI) : EvR ρ (iRange1 f) (r.bind rng1) (A2 eI) := fun e l => by
  rw [iRange1_app]
  refine (h e l).bind fun n d hd => ?_
  rw [show d = _ from hd]
  unfold rng1
  by_cases k : Rg n
  · rw [if_pos k]; exact ⟨_, range1D_int n k, rangeI_A2 0 n⟩
  · rw [if_neg k]; trivial
theorem v_rng1p {n : Int} (h : EvR ρ f (.ok n) eI) : EvR ρ (iRange1 f) (rng1 n) (A2 eI) := v_rng1 h
/-- range(n) whose number is small enough: no questions asked -/
theorem rng1_ok {n : Int} (h : -1000000000 ≤ n) (k : n ≤ 1000000000) : rng1 n = .ok (rangeI 0 n) := if_pos (Rg.of h k)
def prog3I (i c : Int) (n : Nat) : List Int := (List.range n).map fun k => i + (k : Nat) * c
open Classical in
noncomputable def rng3 (i j c : Int) : Res (List Int) := if h : ∃ n, RgC i j c n then .ok (prog3I i c (Classical.choose h)) else .bad
theorem v_rng3p {fa fb fc : DL.Env → Res D} {i j c : Int} (ha : EvR ρ fa (.ok i) eI) (hb : EvR ρ fb (.ok j) eI) (hc : EvR ρ fc (.ok c) eI) : EvR ρ (iRange3 fa fb fc) (rng3 i j c) (A2 eI) := fun e l => by
  obtain ⟨x, a1, rfl⟩ := ha e l
  obtain ⟨y, b1, rfl⟩ := hb e l
  obtain ⟨z, c1, rfl⟩ := hc e l
  rw [iRange3_app, a1, b1, c1]
  simp only [Res.bind_ok, r3D_int]
  unfold rng3 rg3
  by_cases h : ∃ n, RgC i j c n
  · rw [dif_pos h, dif_pos h]; exact ⟨_, rfl, A2.fn.mpr (by unfold prog3 prog3I; rw [List.map_map]; rfl)⟩
  · rw [dif_neg h, dif_neg h]; trivial
end
/-! ### lists that are changed -/
open Classical in
noncomputable def appR {α : Type} (l : List α) (a : α) : Res (List α) := if l.length < sizeLine then .ok (l ++ [a]) else .bad
theorem appR_ok {l : List α} {a : α} (h : l.length ≤ 10000000) : appR l a = .ok (l ++ [a]) := if_pos (by rw [PySem.sizeLine_eq]; omega)
section
variable {ρ : KEnv}
theorem sMut_J {al : List Nat} {i : Nat} {gm : List D → List D → Option (List D)} {fs : DL.Env → Res (List D)} {E : RE α} {l : List α} {Q : β → List D → Prop} {r : Res β} {t : β → Res (List α)}
    (hf : (fzK al ρ)[i]? = some (some (ow (eL E) l))) (hr : EvR ρ fs r Q) (hg : ∀ ds b es l', A2 E l ds → Q b es → t b = .ok l' → ∃ ds', gm ds es = some ds' ∧ A2 E l' ds') (hn : ∀ b c fs, t b ≠ .exc c fs) : J ρ (sMut al i gm fs) (r.bind t) (PN fun l' => (fzK al ρ).set i (some (ow (eL E) l'))) := fun e le => by
  have lf := le.fz al
  obtain ⟨d, o, h1, ⟨ds, h2, h3⟩, h4⟩ := lf.get hf
  subst h2 h4
  have := hr e le
  have main : sMut al i gm fs e = (match fs e with | .ok es => (match gm ds es with | some ys => .nx ((fz al e).set i (some (.lst ys, true))) | none => .bad) | .exc c fs' => .ex c fs' (fz al e) | .bad => .bad) := by
    rw [sMut_app, ownL_app, h1]
    dsimp only
    rw [sE_app]
    cases fs e <;> rfl
  rw [main]
  cases r with
  | ok b =>
    obtain ⟨es, h5, h6⟩ := this
    rw [h5]
    show JM (t b) _ _
    cases q : t b with
    | ok l' =>
      obtain ⟨ds', h7, h8⟩ := hg ds b es l' h3 h6 q
      dsimp only
      rw [h7]
      exact ⟨_, rfl, lf.set i ⟨⟨ds', rfl, h8⟩, rfl⟩⟩
    | exc c fs' => exact absurd q (hn _ _ _)
    | bad => trivial
  | exc c fs' => rw [show fs e = _ from this]; exact ⟨_, rfl⟩
  | bad => trivial
theorem appR_nx (l : List α) (a : α) (c : String) (fs : List D) : appR l a ≠ .exc c fs := by unfold appR; split <;> simp
theorem d_app {al : List Nat} {i : Nat} {f : DL.Env → Res D} {E : RE α} {l : List α} {r : Res α} (hf : (fzK al ρ)[i]? = some (some (ow (eL E) l))) (h : EvR ρ f r E) : J ρ (sMut al i gAppend (aCons f aNil)) (r.bind fun a => appR l a) (PN fun l' => (fzK al ρ).set i (some (ow (eL E) l'))) :=
  sMut_J hf (vq_1 h) (fun ds b es l' h1 h2 h3 => by
    obtain ⟨d, rfl, h4⟩ := h2
    unfold appR at h3
    split at h3
    · rename_i hl
      cases h3
      exact ⟨ds ++ [d], by unfold gAppend; dsimp only; rw [if_pos (by rw [h1.length]; exact hl)], h1.append ⟨d, [], rfl, h4, rfl⟩⟩
    · cases h3) (fun b => appR_nx l b)
theorem d_appP {al : List Nat} {i : Nat} {f : DL.Env → Res D} {E : RE α} {l : List α} {a : α} (hf : (fzK al ρ)[i]? = some (some (ow (eL E) l))) (h : EvR ρ f (.ok a) E) : J ρ (sMut al i gAppend (aCons f aNil)) (appR l a) (PN fun l' => (fzK al ρ).set i (some (ow (eL E) l'))) := d_app hf h
theorem catR_nx (l a : List α) (c : String) (fs : List D) : catR l a ≠ .exc c fs := by unfold catR; split <;> simp
theorem d_extL {al : List Nat} {i : Nat} {f : DL.Env → Res D} {E : RE α} {l : List α} {r : Res (List α)} (hf : (fzK al ρ)[i]? = some (some (ow (eL E) l))) (h : EvR ρ f r (eL E)) : J ρ (sMut al i gExtend (aCons f aNil)) (r.bind fun a => catR l a) (PN fun l' => (fzK al ρ).set i (some (ow (eL E) l'))) :=
  sMut_J hf (vq_1 h) (fun ds b es l' h1 h2 h3 => by
    obtain ⟨_, rfl, ks, rfl, h4⟩ := h2
    unfold catR at h3
    split at h3
    · rename_i hl
      cases h3
      exact ⟨ds ++ ks, if_pos (by rw [h1.length, h4.length]; exact hl), h1.append h4⟩
    · cases h3) (fun b => catR_nx l b)
theorem d_extT {al : List Nat} {i : Nat} {f : DL.Env → Res D} {E : RE α} {l : List α} {r : Res (List α)} (hf : (fzK al ρ)[i]? = some (some (ow (eL E) l))) (h : EvR ρ f r (eT E)) : J ρ (sMut al i gExtend (aCons f aNil)) (r.bind fun a => catR l a) (PN fun l' => (fzK al ρ).set i (some (ow (eL E) l'))) :=
  sMut_J hf (vq_1 h) (fun ds b es l' h1 h2 h3 => by
    obtain ⟨_, rfl, ks, rfl, h4⟩ := h2
    unfold catR at h3
    split at h3
    · rename_i hl
      cases h3
      exact ⟨ds ++ ks, if_pos (by rw [h1.length, h4.length]; exact hl), h1.append h4⟩
    · cases h3) (fun b => catR_nx l b)
end
/-! ### dicts -/
structure KeyF {α : Type} (t : Bool) (f : α → D) : Prop where
  inj : ∀ a b, f a = f b → a = b
  ok : ∀ a, D.keyOk t (f a) = true
theorem KeyF.int : KeyF false D.int := ⟨fun a b h => by injection h, fun a => rfl⟩
theorem KeyF.str : KeyF false D.str := ⟨fun a b h => by injection h, fun a => rfl⟩
theorem KeyF.row : KeyF true ans := ⟨fun a b h => ans_inj h, ans_key⟩
def eK {α : Type} (f : α → D) : RE α := fun a d => d = f a
def eM {α β : Type} (t : Bool) (f : α → D) (E : RE β) : RE (List (α × β)) := fun m d => ∃ kvs, d = .dct t kvs ∧ A2 (fun (p : α × β) (q : D × D) => q.1 = f p.1 ∧ E p.2 q.2) m kvs
section
variable [DecidableEq α] {t : Bool} {f : α → D} {E : RE β}
theorem set_A2 (K : KeyF t f) {m : List (α × β)} {kvs : List (D × D)} (h : A2 (fun (p : α × β) (q : D × D) => q.1 = f p.1 ∧ E p.2 q.2) m kvs) (k : α) {v : β} {d : D} (hv : E v d) :
    A2 (fun (p : α × β) (q : D × D) => q.1 = f p.1 ∧ E p.2 q.2) (putG m k v) (dSet kvs (f k) d) := by
  have any : ∀ {m : List (α × β)} {kvs : List (D × D)}, A2 (fun (p : α × β) (q : D × D) => q.1 = f p.1 ∧ E p.2 q.2) m kvs → (kvs.any fun p => @decide (p.1 = f k) (Classical.propDecidable _)) = m.any fun p => decide (p.1 = k) := by
    intro m
    induction m with
    | nil => intro kvs h; rw [show kvs = [] from h]; rfl
    | cons p m ih =>
      rintro _ ⟨q, r, rfl, ⟨h1, h2⟩, h3⟩
      rw [List.any_cons, List.any_cons, ih h3]
      congr 1
      rw [h1]
      by_cases h : p.1 = k
      · simp [h]
      · have : f p.1 ≠ f k := fun z => h (K.inj _ _ z)
        simp [h, this]
  have mp : ∀ {m : List (α × β)} {kvs : List (D × D)}, A2 (fun (p : α × β) (q : D × D) => q.1 = f p.1 ∧ E p.2 q.2) m kvs → A2 (fun (p : α × β) (q : D × D) => q.1 = f p.1 ∧ E p.2 q.2) (m.map fun p => if p.1 = k then (p.1, v) else p) (kvs.map fun p => @ite _ (p.1 = f k) (Classical.propDecidable _) (p.1, d) p) := by
    intro m
    induction m with
    | nil => intro kvs h; rw [show kvs = [] from h]; rfl
    | cons p m ih =>
      rintro _ ⟨q, r, rfl, ⟨h1, h2⟩, h3⟩
      refine ⟨_, _, rfl, ?_, ih h3⟩
      by_cases h : p.1 = k
      · have e : q.1 = f k := by rw [h1, h]
        dsimp only; rw [if_pos h, if_pos e]; exact ⟨h1, hv⟩
      · have e : q.1 ≠ f k := fun z => h (K.inj _ _ (h1.symm.trans z))
        dsimp only; rw [if_neg h, if_neg e]; exact ⟨h1, h2⟩
  unfold putG dSet
  rw [any h]
  split
  · exact mp h
  · exact h.append ⟨_, [], rfl, ⟨rfl, hv⟩, rfl⟩
variable {ρ : KEnv}
open Classical in
noncomputable def putDR (m : List (α × β)) (k : α) (v : β) : Res (List (α × β)) := if m.length < sizeLine then .ok (putG m k v) else .bad
omit [DecidableEq α] in
theorem v_dnew : EvR ρ (eDNew t) (.ok []) (eM t f E) := fun e l => ⟨_, rfl, [], rfl, rfl⟩
theorem d_putD (K : KeyF t f) {al : List Nat} {i : Nat} {fk fv : DL.Env → Res D} {m : List (α × β)} {rk : Res α} {rv : Res β} (hf : (fzK al ρ)[i]? = some (some (ow (eM t f E) m))) (hk : EvR ρ fk rk (eK f)) (hv : EvR ρ fv rv E) :
    J ρ (sPutD al i fk fv) (rv.bind fun v => rk.bind fun k => putDR m k v) (PN fun m' => (fzK al ρ).set i (some (ow (eM t f E) m'))) := fun e le => by
  have lf := le.fz al
  obtain ⟨d, o, h1, ⟨kvs, h2, h3⟩, h4⟩ := lf.get hf
  subst h2 h4
  have hk' := hk e le
  have hv' := hv e le
  rw [sPutD_app, ownD_app, h1]
  dsimp only
  rw [sE_app]
  cases rv with
  | ok v =>
    obtain ⟨y, b1, b2⟩ := hv'
    rw [b1]
    cases rk with
    | ok k =>
      obtain ⟨x, a1, rfl⟩ := hk'
      rw [a1]
      show JM (putDR m k v) _ _
      unfold putDR
      by_cases q : m.length < sizeLine
      · rw [if_pos q]
        exact ⟨_, by simp only [Res.bind_ok]; rw [if_pos ⟨K.ok k, by rw [h3.length]; exact q⟩], lf.set i ⟨⟨_, rfl, set_A2 K h3 k b2⟩, rfl⟩⟩
      · rw [if_neg q]; trivial
    | exc c fs => rw [show fk e = _ from hk']; exact ⟨_, rfl⟩
    | bad => trivial
  | exc c fs => rw [show fv e = _ from hv']; exact ⟨_, rfl⟩
  | bad => trivial
theorem d_putDP (K : KeyF t f) {al : List Nat} {i : Nat} {fk fv : DL.Env → Res D} {m : List (α × β)} {k : α} {v : β} (hf : (fzK al ρ)[i]? = some (some (ow (eM t f E) m))) (hk : EvR ρ fk (.ok k) (eK f)) (hv : EvR ρ fv (.ok v) E) :
    J ρ (sPutD al i fk fv) (putDR m k v) (PN fun m' => (fzK al ρ).set i (some (ow (eM t f E) m'))) := d_putD K hf hk hv
end
end
end DL

/-! Typed readings: more operations, casts. -/
namespace DL
open PySem PySem.Spec PyProof.Rows L2
open PySem.Builtin.Int (intBits)

theorem Res.assoc {α β γ : Type} (r : Res α) (f : α → Res β) (g : β → Res γ) : (r.bind f).bind g = r.bind fun a => (f a).bind g := by cases r <;> rfl
@[simp] theorem pow_10_30 : dPow (.int 10) (.int 30) = .ok (.int (10 ^ 30)) := dPow_of (by decide +kernel)
@[simp] theorem pow_10_12 : dPow (.int 10) (.int 12) = .ok (.int (10 ^ 12)) := dPow_of (by decide +kernel)
@[simp] theorem pow_10_6 : dPow (.int 10) (.int 6) = .ok (.int (10 ^ 6)) := dPow_of (by decide +kernel)
section
variable {α β γ : Type} {ρ : KEnv}
theorem v_eqr {f : DL.Env → Res β} {r r' : Res α} {E : α → β → Prop} (h : EvR ρ f r E) (e : r = r') : EvR ρ f r' E := e ▸ h
theorem v_opl {fa fb : DL.Env → Res D} {g : D → D → Res D} {Ea : RE α} {Eb : RE β} {Ec : RE γ} {ra : Res α} {b : β} {gt : α → Res γ} (hg : ∀ a x y, Ea a x → Eb b y → Rf (g x y) (gt a) Ec) (ha : EvR ρ fa ra Ea) (hb : EvR ρ fb (.ok b) Eb) :
    EvR ρ (eOp g fa fb) (ra.bind gt) Ec := fun e l => (ha e l).bind fun a x h1 => by
  obtain ⟨y, h2, h3⟩ := hb e l
  rw [h2]
  exact hg a x y h1 h3
theorem v_1i {fa : DL.Env → Res D} {g : D → Res D} {Ea Ec : RE α} {ra : Res α} (hg : ∀ a x, Ea a x → Rf (g x) (.ok a) Ec) (ha : EvR ρ fa ra Ea) : EvR ρ (e1 g fa) ra Ec := fun e l => by
  have := (ha e l).bind hg
  cases ra <;> exact this
theorem b_andM {fa fb : DL.Env → Res Bool} {P : Prop} [Decidable P] {rb : Res Bool} (ha : EvR ρ fa (.ok (decide P)) Tr) (hb : EvR ρ fb rb Tr) : EvR ρ (bAnd fa fb) (if P then rb else .ok false) Tr := fun e l => by
  have := b_and ha hb e l
  rw [show (Res.ok (decide P)).bind (fun b => if b = true then rb else .ok false) = (if P then rb else .ok false) by by_cases h : P <;> simp [h]] at this
  exact this
/-! shares written down -/
/-! readings by a function -/
def Fun {α : Type} (E : RE α) (f : α → D) : Prop := ∀ a d, E a d ↔ eD (f a) d
def FunQ {α : Type} (Q : α → List D → Prop) (f : α → List D) : Prop := ∀ a d, Q a d ↔ d = f a
def fLst {α : Type} (f : α → D) : List α → D := fun l => .lst (l.map f)
def fTup {α : Type} (f : α → D) : List α → D := fun l => .tup (l.map f)
def fOpt {α : Type} (f : α → D) : Option α → D := fun o => match o with | none => .non | some a => f a
def fPr {α : Type} (f : α → List D) : α → D := fun a => .tup (f a)
def fOne {α : Type} (f : α → D) : α → List D := fun a => [f a]
def fCons {α β : Type} (f : α → D) (g : β → List D) : α × β → List D := fun p => f p.1 :: g p.2
theorem Fun.int : Fun eI D.int := fun a d => Iff.rfl
theorem Fun.bl : Fun eB D.bl := fun a d => Iff.rfl
theorem Fun.str : Fun eS D.str := fun a d => Iff.rfl
theorem Fun.row : Fun eR ans := fun a d => Iff.rfl
theorem Fun.raw : Fun eD (fun d => d) := fun a d => Iff.rfl
theorem Fun.non : Fun eN (fun _ => D.non) := fun a d => Iff.rfl
theorem a2_fun {E : RE α} {f : α → D} (h : Fun E f) (l : List α) (ds : List D) : A2 E l ds ↔ ds = l.map f := by
  rw [← A2.fn]
  exact ⟨A2.imp fun a d => (h a d).mp, A2.imp fun a d => (h a d).mpr⟩
theorem Fun.lst {E : RE α} {f : α → D} (h : Fun E f) : Fun (eL E) (fLst f) := fun a d =>
  ⟨fun ⟨ds, e, r⟩ => by rw [e, (a2_fun h a ds).mp r]; rfl, fun e => ⟨_, e, (a2_fun h a _).mpr rfl⟩⟩
theorem Fun.tup {E : RE α} {f : α → D} (h : Fun E f) : Fun (eT E) (fTup f) := fun a d =>
  ⟨fun ⟨ds, e, r⟩ => by rw [e, (a2_fun h a ds).mp r]; rfl, fun e => ⟨_, e, (a2_fun h a _).mpr rfl⟩⟩
theorem Fun.opt {E : RE α} {f : α → D} (h : Fun E f) : Fun (eO E) (fOpt f) := fun a d => by
  cases a with
  | none => exact Iff.rfl
  | some a => exact h a d
theorem FunQ.one {E : RE α} {f : α → D} (h : Fun E f) : FunQ (q1 E) (fOne f) := fun a d =>
  ⟨fun ⟨x, e, r⟩ => by rw [e, show x = _ from (h a x).mp r]; rfl, fun e => ⟨_, e, (h a _).mpr rfl⟩⟩
theorem FunQ.c {E : RE α} {f : α → D} {Q : β → List D → Prop} {g : β → List D} (h : Fun E f) (k : FunQ Q g) : FunQ (qC E Q) (fCons f g) := fun a d =>
  ⟨fun ⟨x, y, e, r, s⟩ => by rw [e, show x = _ from (h _ x).mp r, (k _ y).mp s]; rfl, fun e => ⟨_, _, e, (h _ _).mpr rfl, (k _ _).mpr rfl⟩⟩
theorem Fun.pr {Q : α → List D → Prop} {f : α → List D} (h : FunQ Q f) : Fun (eQ Q) (fPr f) := fun a d =>
  ⟨fun ⟨ds, e, r⟩ => by rw [e, (h a ds).mp r]; rfl, fun e => ⟨_, e, (h a _).mpr rfl⟩⟩
/-! something or nothing -/
def optR {α : Type} : Option α → Res α
  | some a => .ok a
  | none => .bad
@[simp] theorem optR_some (a : α) : optR (some a) = .ok a := rfl
/-- never None -/
def NonN {α : Type} (E : RE α) : Prop := ∀ a d, E a d → dIs d .non = .ok (.bl false)
theorem nn_I : NonN eI := by rintro a _ rfl; rfl
theorem o_isN {E : RE α} (h : NonN E) (a : Option α) (u : Unit) : ∀ x y, eO E a x → eN u y → Rf (dIs x y) (.ok (decide (a = none))) eB := by
  rintro x _ hx rfl
  cases a with
  | none => rw [show x = _ from hx]; exact ⟨_, rfl, rfl⟩
  | some a => exact ⟨_, h a x hx, rfl⟩
theorem o_isnt {E : RE α} (h : NonN E) (a : Option α) (u : Unit) : ∀ x y, eO E a x → eN u y → Rf (dIsNot x y) (.ok (decide (a ≠ none))) eB := by
  rintro x _ hx rfl
  cases a with
  | none => rw [show x = _ from hx]; exact ⟨_, rfl, rfl⟩
  | some a => exact ⟨_, by unfold dIsNot; rw [h a x hx]; rfl, rfl⟩
/-! texts -/
/-! keys -/
theorem v_keyS {f : DL.Env → Res D} {r : Res Str} (h : EvR ρ f r eS) : EvR ρ f r (eK D.str) := v_imp h fun _ _ h => h
/-! tuples of raw data taken apart -/
/-! kinds of things -/
section
variable {E : RE α} {Q : α → List D → Prop}
end
/-! dicts: displays, copies, equality -/
theorem a2_mem {E : α → β → Prop} : ∀ {l : List α} {r : List β}, A2 E l r → ∀ d ∈ r, ∃ a ∈ l, E a d
  | [], _, h, d, hd => by rw [show _ = [] from h] at hd; cases hd
  | a :: l, _, ⟨d', r, rfl, h1, h2⟩, d, hd => by
    rcases List.mem_cons.mp hd with rfl | hd
    · exact ⟨a, List.mem_cons_self, h1⟩
    · obtain ⟨b, hb, h3⟩ := a2_mem h2 d hd
      exact ⟨b, List.mem_cons_of_mem _ hb, h3⟩
/-! slices with a step -/
end
end DL

/-! What typed reckonings come to: they end well, and with what. -/
namespace DL
open PySem PySem.Spec PyProof.Rows L2
open PySem.Builtin.Int (intBits)
/-- it ends well, with what P says -/
def Ok {α : Type} (r : Res α) (P : α → Prop) : Prop := ∃ a, r = .ok a ∧ P a
section
variable {α β S R : Type}
theorem Ok.ok {a : α} {P : α → Prop} (h : P a) : Ok (.ok a) P := ⟨a, rfl, h⟩
theorem Ok.of {r : Res α} {a : α} {P : α → Prop} (e : r = .ok a) (h : P a) : Ok r P := ⟨a, e, h⟩
theorem Ok.bind {r : Res α} {f : α → Res β} {P : α → Prop} {Q : β → Prop} (h : Ok r P) (k : ∀ a, P a → Ok (f a) Q) : Ok (r.bind f) Q := by
  obtain ⟨a, rfl, h⟩ := h
  exact k a h
theorem Ok.imp {r : Res α} {P Q : α → Prop} (h : Ok r P) (k : ∀ a, P a → Q a) : Ok r Q := by
  obtain ⟨a, e, h⟩ := h
  exact ⟨a, e, k a h⟩
theorem Ok.ite {c : Prop} [Decidable c] {a b : Res α} {P : α → Prop} (h : c → Ok a P) (k : ¬ c → Ok b P) : Ok (if c then a else b) P := by
  by_cases q : c
  · rw [if_pos q]; exact h q
  · rw [if_neg q]; exact k q
theorem Ok.get {r : Res α} {P : α → Prop} (h : Ok r P) : ∃ a, r = .ok a ∧ P a := h
/-! numbers -/
theorem sm64 {i : Int} (h : -1000000000000000000 ≤ i) (k : i ≤ 1000000000000000000) : Sm 64 i := by
  have e : (2 : Nat) ^ 64 = 18446744073709551616 := by decide
  show i.natAbs < 2 ^ 64
  omega
theorem mulR_s {i j : Int} (h : -1000000000000000000 ≤ i) (k : i ≤ 1000000000000000000) (h' : -1000000000000000000 ≤ j) (k' : j ≤ 1000000000000000000) : mulR i j = .ok (i * j) := mulR_ok (sm64 h k) (sm64 h' k') (by decide)
theorem mulR_l {n : Nat} {i j : Int} (h : Sm n i) (hn : n ≤ 100000000) (h' : -1000000000000000000 ≤ j) (k' : j ≤ 1000000000000000000) : mulR i j = .ok (i * j) := mulR_ok h (sm64 h' k') (by unfold big; omega)
theorem Sm.sum : ∀ {l : List Int} {n : Nat}, (∀ z ∈ l, Sm n z) → l.length ≤ 64 → Sm (n + 6) l.sum := by
  have gen : ∀ (l : List Int) (n : Nat), (∀ z ∈ l, Sm n z) → l.sum.natAbs ≤ l.length * 2 ^ n := by
    intro l n
    induction l with
    | nil => intro _; exact Nat.zero_le _
    | cons z l ih =>
      intro h
      have a := ih fun y hy => h y (List.mem_cons_of_mem _ hy)
      have b : z.natAbs < 2 ^ n := h z List.mem_cons_self
      rw [List.sum_cons, List.length_cons, Nat.succ_mul]
      omega
  intro l n h hl
  by_cases hz : l = []
  · subst hz; show (0 : Int).natAbs < _; exact Nat.two_pow_pos _
  have a := gen l n h
  by_cases h63 : l.length ≤ 63
  · show l.sum.natAbs < 2 ^ (n + 6)
    rw [Nat.pow_add]
    have : l.length * 2 ^ n ≤ 63 * 2 ^ n := Nat.mul_le_mul_right _ h63
    have := Nat.two_pow_pos n
    omega
  · show l.sum.natAbs < 2 ^ (n + 6)
    have strict : ∀ (l : List Int), l ≠ [] → (∀ z ∈ l, Sm n z) → l.sum.natAbs < l.length * 2 ^ n := by
      intro l
      induction l with
      | nil => intro h; exact absurd rfl h
      | cons z l ih =>
        intro _ h
        have b : z.natAbs < 2 ^ n := h z List.mem_cons_self
        have a := gen l n fun y hy => h y (List.mem_cons_of_mem _ hy)
        rw [List.sum_cons, List.length_cons, Nat.succ_mul]
        omega
    have := strict l hz h
    rw [Nat.pow_add]
    have : l.length * 2 ^ n ≤ 64 * 2 ^ n := Nat.mul_le_mul_right _ hl
    omega
theorem sm_bits {z : Int} {n : Nat} (h : intBits z ≤ n) : Sm n z := Sm.bits.mpr h
/-! lists -/
theorem fits_of {n : Nat} (h : n ≤ 10000000) : Fits n := by unfold Fits; rw [PySem.sizeLine_eq]; omega
theorem Ok.getL {l : List α} {i : Int} {P : α → Prop} (h : -(l.length : Int) ≤ i) (k : i < l.length) (q : ∀ a ∈ l, P a) : Ok (getL l i) P := by
  obtain ⟨a, m, e⟩ := getL_mem h k
  exact ⟨a, e, q a m⟩
theorem rangeI_len (m n : Int) : (rangeI m n).length = (n - m).toNat := by unfold rangeI; simp
theorem rangeI_mem {m n i : Int} : i ∈ rangeI m n ↔ m ≤ i ∧ i < n := by
  unfold rangeI
  simp only [List.mem_map, List.mem_range]
  constructor
  · rintro ⟨k, h1, h2⟩; omega
  · intro h; exact ⟨(i - m).toNat, by omega, by omega⟩
/-- each item by itself -/
theorem Ok.mapR {f : α → Res β} {P : α → β → Prop} : ∀ {l : List α}, (∀ a ∈ l, Ok (f a) (P a)) → Ok (mapR l f) fun bs => A2 P l bs
  | [], _ => ⟨[], rfl, rfl⟩
  | a :: l, h => by
    obtain ⟨b, e, hb⟩ := h a List.mem_cons_self
    obtain ⟨bs, e', hbs⟩ := Ok.mapR (l := l) fun x hx => h x (List.mem_cons_of_mem _ hx)
    exact ⟨b :: bs, by unfold DL.mapR; rw [e, e']; rfl, b, bs, rfl, hb, hbs⟩
theorem Ok.compR {f : α → Res β} {P : α → β → Prop} {Q : List β → Prop} {l : List α} (hl : l.length ≤ 10000000) (h : ∀ a ∈ l, Ok (f a) (P a)) (q : ∀ bs, A2 P l bs → Q bs) : Ok (compR l f) Q := by
  obtain ⟨bs, e, hb⟩ := Ok.mapR h
  refine ⟨bs, ?_, q bs hb⟩
  unfold DL.compR
  rw [if_pos (fits_of hl), e]
  rfl
theorem mapR_fn {f : α → Res β} {g : α → β} : ∀ {l : List α}, (∀ a ∈ l, f a = .ok (g a)) → DL.mapR l f = .ok (l.map g)
  | [], _ => rfl
  | a :: l, h => by unfold DL.mapR; rw [h a List.mem_cons_self, mapR_fn fun x hx => h x (List.mem_cons_of_mem _ hx)]; rfl
theorem compR_fn {f : α → Res β} {g : α → β} {l : List α} (hl : l.length ≤ 10000000) (h : ∀ a ∈ l, f a = .ok (g a)) : DL.compR l f = .ok (l.map g) := by
  unfold DL.compR
  rw [if_pos (fits_of hl), mapR_fn h]
  rfl
theorem filR_fn {c : α → Res Bool} {f : α → Res β} {d : α → Bool} {g : α → β} : ∀ {l : List α}, (∀ a ∈ l, c a = .ok (d a)) → (∀ a ∈ l, d a = true → f a = .ok (g a)) → DL.filR l c f = .ok ((l.filter d).map g)
  | [], _, _ => rfl
  | a :: l, h, k => by
    have ih := filR_fn (l := l) (fun x hx => h x (List.mem_cons_of_mem _ hx)) (fun x hx => k x (List.mem_cons_of_mem _ hx))
    unfold DL.filR
    rw [h a List.mem_cons_self, Res.bind_ok, ih]
    by_cases q : d a = true
    · rw [if_pos q, k a List.mem_cons_self q, List.filter_cons, if_pos q]; rfl
    · rw [if_neg q, List.filter_cons, if_neg q]
theorem compF_fn {c : α → Res Bool} {f : α → Res β} {d : α → Bool} {g : α → β} {l : List α} (hl : l.length ≤ 10000000) (h : ∀ a ∈ l, c a = .ok (d a)) (k : ∀ a ∈ l, d a = true → f a = .ok (g a)) : DL.compF l c f = .ok ((l.filter d).map g) := by
  unfold DL.compF
  rw [if_pos (fits_of hl), filR_fn h k]
  rfl
/-- a loop with an invariant over the items done -/
theorem Ok.forR {f : α → S → Res S} {l : List α} {s : S} (I : List α → S → Prop) (h0 : I [] s) (h : ∀ d a r s, l = d ++ a :: r → I d s → Ok (f a s) (I (d ++ [a]))) : Ok (forR l s f) (I l) := by
  have gen : ∀ (r d : List α) (s : S), l = d ++ r → I d s → Ok (DL.forR r s f) (I l) := by
    intro r
    induction r with
    | nil => intro d s e hI; rw [e, List.append_nil]; exact ⟨s, rfl, hI⟩
    | cons a r ih =>
      intro d s e hI
      unfold DL.forR
      exact (h d a r s e hI).bind fun s' hs' => ih (d ++ [a]) s' (by rw [e, List.append_assoc]; rfl) hs'
  exact gen l [] s rfl h0
/-- a loop that appends one thing a turn -/
theorem Ok.forA {f : α → List β → Res (List β)} {P : α → β → Prop} {l : List α} {s : List β} (hl : s.length + l.length ≤ 10000000) (h : ∀ a ∈ l, ∀ s' : List β, s'.length ≤ 10000000 → Ok (f a s') fun s'' => ∃ b, P a b ∧ s'' = s' ++ [b]) : Ok (DL.forR l s f) fun s' => ∃ bs, A2 P l bs ∧ s' = s ++ bs := by
  refine Ok.imp (Ok.forR (fun d s' => ∃ bs, A2 P d bs ∧ s' = s ++ bs) ⟨[], rfl, by simp⟩ ?_) fun _ h => h
  rintro d a r s' e ⟨bs, h1, rfl⟩
  have len : (s ++ bs).length ≤ 10000000 := by rw [List.length_append, h1.length]; have := congrArg List.length e; simp at this; omega
  refine (h a (by rw [e]; simp) _ len).imp ?_
  rintro _ ⟨b, hb, rfl⟩
  exact ⟨bs ++ [b], h1.append ⟨b, [], rfl, hb, rfl⟩, by rw [List.append_assoc]⟩
/-- a loop all of whose turns go on -/
theorem forX_all {f : α → S → Res (Oc S R)} {l : List α} {s : S} (I : List α → S → Prop) (h0 : I [] s) (h : ∀ d a r s, l = d ++ a :: r → I d s → Ok (f a s) fun o => ∃ s', o = .nx s' ∧ I (d ++ [a]) s') : Ok (forX l s f) fun o => ∃ s', o = .nx s' ∧ I l s' := by
  have gen : ∀ (r d : List α) (s : S), l = d ++ r → I d s → Ok (DL.forX r s f) fun o => ∃ s', o = .nx s' ∧ I l s' := by
    intro r
    induction r with
    | nil => intro d s e hI; rw [e, List.append_nil]; exact ⟨_, rfl, s, rfl, hI⟩
    | cons a r ih =>
      intro d s e hI
      unfold DL.forX
      refine (h d a r s e hI).bind ?_
      rintro _ ⟨s', rfl, hs'⟩
      exact ih (d ++ [a]) s' (by rw [e, List.append_assoc]; rfl) hs'
  exact gen l [] s rfl h0
theorem forX_unit {f : α → Unit → Res (Oc Unit R)} {l : List α} (h : ∀ a ∈ l, f a () = .ok (.nx ())) : forX l () f = .ok (.nx ()) := by
  induction l with
  | nil => rfl
  | cons a l ih => unfold DL.forX; rw [h a List.mem_cons_self]; exact ih fun x hx => h x (List.mem_cons_of_mem _ hx)
@[simp] theorem thenX_nx {T : Type} (s : S) (m : R → T) (k : S → Res T) : thenX (.ok (.nx s)) m k = k s := Eq.trans rfl rfl
@[simp] theorem thenX_rt {T : Type} (v : R) (m : R → T) (k : S → Res T) : thenX (.ok (.rt v) : Res (Oc S R)) m k = .ok (m v) := Eq.trans rfl rfl
/-! while -/
end
end DL
namespace DL
end DL
namespace DL
theorem fTup_ap {α : Type} (f : α → D) (l : List α) : fTup f l = .tup (l.map f) := rfl
theorem fPr_ap {α : Type} (f : α → List D) (a : α) : fPr f a = .tup (f a) := rfl
theorem fCons_ap {α β : Type} (f : α → D) (g : β → List D) (a : α) (b : β) : fCons f g (a, b) = f a :: g b := rfl
theorem fOne_ap {α : Type} (f : α → D) (a : α) : fOne f a = [f a] := rfl
end DL

/-! Typed readings: sets of lists, max with a default. -/
namespace DL
open PySem PySem.Spec PyProof.Rows L2
section
variable {α : Type}
theorem keys_I : ∀ l : List Int, D.keys (l.map D.int) = some (l.map Sum.inl)
  | [] => rfl
  | i :: l => by rw [List.map_cons, D.keys, keys_I l]; rfl
theorem keys_S : ∀ l : List Str, D.keys (l.map D.str) = some (l.map Sum.inr)
  | [] => rfl
  | i :: l => by rw [List.map_cons, D.keys, keys_S l]; rfl
open Classical in
noncomputable def nubL : List α → List α
  | [] => []
  | a :: l => if a ∈ nubL l then nubL l else a :: nubL l
theorem nubL_mem {a : α} : ∀ {l : List α}, a ∈ nubL l ↔ a ∈ l
  | [] => Iff.rfl
  | x :: r => by
    unfold nubL
    have ih := nubL_mem (a := a) (l := r)
    split
    · rename_i h
      rw [ih, List.mem_cons]
      exact ⟨.inr, fun z => z.elim (fun z => by rw [z]; exact nubL_mem.mp h) fun z => z⟩
    · rw [List.mem_cons, List.mem_cons, ih]
theorem nubL_nodup : ∀ l : List α, (nubL l).Nodup
  | [] => List.nodup_nil
  | x :: r => by
    unfold nubL
    split
    · exact nubL_nodup r
    · rename_i h; exact List.nodup_cons.mpr ⟨h, nubL_nodup r⟩
theorem nubL_len : ∀ l : List α, (nubL l).length ≤ l.length
  | [] => Nat.le_refl _
  | x :: r => by
    unfold nubL
    have := nubL_len r
    split <;> simp <;> omega
theorem nubL_id : ∀ {l : List α}, l.Nodup → nubL l = l
  | [], _ => rfl
  | x :: r, h => by
    obtain ⟨h1, h2⟩ := List.nodup_cons.mp h
    unfold nubL
    rw [nubL_id h2, if_neg h1]
theorem nubK_map {f : α → Key} (hf : ∀ a b, f a = f b → a = b) : ∀ l : List α, nubK (l.map f) = (nubL l).map f
  | [] => rfl
  | a :: l => by
    rw [List.map_cons, nubK, nubL, nubK_map hf l]
    have : f a ∈ (nubL l).map f ↔ a ∈ nubL l := by
      rw [List.mem_map]
      exact ⟨fun ⟨b, h1, h2⟩ => hf b a h2 ▸ h1, fun h => ⟨a, h, rfl⟩⟩
    by_cases h : a ∈ nubL l
    · rw [if_pos h, if_pos (this.mpr h)]
    · rw [if_neg h, if_neg (fun z => h (this.mp z))]; rfl
open Classical in
noncomputable def lenSetR (l : List α) : Res Int := if l.length ≤ mostK then .ok ((nubL l).length : Nat) else .bad
theorem o_lenSetI (l : List Int) : ∀ x, eL eI l x → Rf (dLenSet x) (lenSetR l) eI := by
  rintro _ ⟨ds, rfl, r⟩
  rw [A2.fn.mp r]
  unfold lenSetR
  by_cases h : l.length ≤ mostK
  · rw [if_pos h]
    exact ⟨_, by dsimp only [dLenSet]; rw [keys_I]; dsimp only; rw [if_pos (by rw [List.length_map]; exact h)], by rw [nubK_map (fun a b h => by injection h), List.length_map]; rfl⟩
  · rw [if_neg h]; trivial
/-- texts in order -/
def leS (a b : Str) : Bool := leK (.inr a) (.inr b)
def sortS (l : List Str) : List Str := l.mergeSort leS
theorem sortKy_S (l : List Str) : sortKy (l.map Sum.inr) = (sortS l).map Sum.inr := by
  unfold sortKy sortS
  rw [List.map_mergeSort]
  intro a _ b _; rfl
def sortI (l : List Int) : List Int := l.mergeSort fun a b => decide (a ≤ b)
theorem leK_I (a b : Int) : leK (.inl a) (.inl b) = decide (a ≤ b) := le_int a b
theorem sortKy_I (l : List Int) : sortKy (l.map Sum.inl) = (sortI l).map Sum.inl := by
  unfold sortKy sortI
  rw [List.map_mergeSort]
  intro a _ b _
  exact (leK_I a b).symm
theorem sortI_perm (l : List Int) : (sortI l).Perm l := List.mergeSort_perm l _
theorem leS_trans (a b c : Str) (h : leS a b = true) (k : leS b c = true) : leS a c = true := leK_trans _ _ _ h k
theorem leS_total (a b : Str) : (leS a b || leS b a) = true := leK_total _ _
theorem leS_anti {a b : Str} (h : leS a b = true) (k : leS b a = true) : a = b := by have := leK_anti h k; injection this
theorem sortS_up (l : List Str) : (sortS l).Pairwise (fun a b => leS a b = true) := List.pairwise_mergeSort leS_trans leS_total l
theorem sortS_perm (l : List Str) : (sortS l).Perm l := List.mergeSort_perm l _
theorem sortS_ext {l m : List Str} (p : l.Perm m) : sortS l = sortS m :=
  List.Perm.eq_of_pairwise (le := fun a b => leS a b = true) (fun a b _ _ h k => leS_anti h k) (sortS_up l) (sortS_up m) (((sortS_perm l).trans p).trans (sortS_perm m).symm)
open Classical in
noncomputable def sortSetI (l : List Int) : Res (List Int) := if l.length ≤ mostK then .ok (sortI (nubL l)) else .bad
theorem o_sortSetI (l : List Int) : ∀ x, eL eI l x → Rf (dSortSet x) (sortSetI l) (eL eI) := by
  rintro _ ⟨ds, rfl, r⟩
  rw [A2.fn.mp r]
  unfold sortSetI
  by_cases h : l.length ≤ mostK
  · rw [if_pos h]
    refine ⟨_, by dsimp only [dSortSet]; rw [keys_I]; dsimp only; rw [if_pos ⟨by rw [List.length_map]; exact h, .inl fun k hk => by obtain ⟨i, _, rfl⟩ := List.mem_map.mp hk; exact ⟨i, rfl⟩⟩], _, rfl, A2.fn.mpr ?_⟩
    rw [nubK_map (fun a b h => by injection h), sortKy_I, List.map_map]; rfl
  · rw [if_neg h]; trivial
open Classical in
noncomputable def sortSetS (l : List Str) : Res (List Str) := if l.length ≤ mostK ∧ ∀ x ∈ l, PyData.strOk x = true then .ok (sortS (nubL l)) else .bad
theorem o_sortSetS (l : List Str) : ∀ x, eL eS l x → Rf (dSortSet x) (sortSetS l) (eL eS) := by
  rintro _ ⟨ds, rfl, r⟩
  rw [A2.fn.mp r]
  unfold sortSetS
  by_cases h : l.length ≤ mostK ∧ ∀ x ∈ l, PyData.strOk x = true
  · rw [if_pos h]
    refine ⟨_, by dsimp only [dSortSet]; rw [keys_S]; dsimp only; rw [if_pos ⟨by rw [List.length_map]; exact h.1, .inr fun k hk => by obtain ⟨i, hi, rfl⟩ := List.mem_map.mp hk; exact ⟨i, rfl, h.2 i hi⟩⟩], _, rfl, A2.fn.mpr ?_⟩
    rw [nubK_map (fun a b h => by injection h), sortKy_S, List.map_map]; rfl
  · rw [if_neg h]; trivial
theorem sortSetI_ok {l : List Int} (h : l.length ≤ 4000) : sortSetI l = .ok (sortI (nubL l)) := if_pos h
theorem lenSetR_ok {l : List α} (h : l.length ≤ 4000) : lenSetR l = .ok ((nubL l).length : Nat) := if_pos h
theorem o_maxDef (c : Int) (l : List Int) : ∀ x, eL eI l x → Rf (dMaxDef c x) (.ok (maxDef c l)) eI := by
  rintro _ ⟨ds, rfl, r⟩
  rw [A2.fn.mp r]
  exact ⟨_, by dsimp only [dMaxDef]; rw [ints_of], rfl⟩
theorem v_meth2 {ρ : KEnv} {T : String} {g : D → List D → Res D} {fo fs : DL.Env → Res D} {α β γ : Type} {Eo : RE α} {Ea : RE β} {Ec : RE γ} {ro : Res α} {ra : Res β} {gt : α → β → Res γ} (ty : ∀ a d, Eo a d → D.ofTy T d = true) (hg : ∀ a b x y, Eo a x → Ea b y → Rf (g x [y]) (gt a b) Ec) (ho : EvR ρ fo ro Eo) (ha : EvR ρ fs ra Ea) :
    EvR ρ (eMeth T g fo (aCons fs aNil)) (ro.bind fun a => ra.bind fun b => gt a b) Ec := fun e l => by
  unfold eMeth
  refine (ho e l).bind fun a x hx => ?_
  rw [if_pos (ty a x hx), aCons_app, aNil_app]
  have := (ha e l).bind (fun b y hy => hg a b x y hx hy)
  cases q : fs e with
  | ok y => rw [q] at this; exact this
  | exc c f => rw [q] at this; exact this
  | bad => rw [q] at this; exact this
theorem ty_L {E : RE α} (a : List α) : ∀ d, eL E a d → D.ofTy "list" d = true := by rintro _ ⟨ds, rfl, r⟩; rfl
theorem o_countI (l : List Int) (k : Int) : ∀ x y, eL eI l x → eI k y → Rf (dCountI x [y]) (.ok ((l.count k : Nat) : Int)) eI := by
  rintro _ _ ⟨ds, rfl, r⟩ rfl
  rw [A2.fn.mp r]
  exact ⟨_, by dsimp only [dCountI]; rw [ints_of], rfl⟩
theorem rep_A2 {E : RE α} {l : List α} {ds : List D} (h : A2 E l ds) : ∀ n, A2 E (List.replicate n l).flatten (List.replicate n ds).flatten
  | 0 => rfl
  | n + 1 => by rw [List.replicate_succ, List.replicate_succ, List.flatten_cons, List.flatten_cons]; exact h.append (rep_A2 h n)
/-! slices whose bounds may fail -/
end
end DL

/-! readings: a tuple times a number; more ways -/
namespace DL
open PySem PySem.Spec PyProof.Rows L2
section
variable {α : Type}
open Classical in
/-- a tuple times a number -/
noncomputable def repT (l : List α) (k : Int) : Res (List α) := if k = 1 then .ok l else if 2 ≤ k ∧ k ≤ 1000 ∧ l ≠ [] ∧ l.length ≤ 1000 then .ok (List.replicate k.toNat l).flatten else .bad
theorem o_repT {E : RE α} (l : List α) (k : Int) : ∀ x y, eT E l x → eI k y → Rf (dRepT x y) (repT l k) (eT E) := by
  rintro _ _ ⟨ds, rfl, r⟩ rfl
  unfold repT
  dsimp only [dRepT]
  by_cases h1 : k = 1
  · rw [if_pos h1, if_pos h1]; exact ⟨_, rfl, ds, rfl, r⟩
  · rw [if_neg h1, if_neg h1]
    by_cases h : 2 ≤ k ∧ k ≤ 1000 ∧ l ≠ [] ∧ l.length ≤ 1000
    · rw [if_pos h, if_pos ⟨h.1, h.2.1, fun z => h.2.2.1 (List.eq_nil_of_length_eq_zero (by rw [← r.length, z]; rfl)), by rw [r.length]; exact h.2.2.2⟩]
      exact ⟨_, rfl, _, rfl, rep_A2 r _⟩
    · rw [if_neg h]; trivial
theorem o_repR (l : List Int) (k : Int) : ∀ x y, eR l x → eI k y → Rf (dRepT x y) (repT l k) eR := fun x y hx hy => by
  have := o_repT (E := eI) l k x y (r_t l x hx) hy
  cases h : repT l k with
  | ok v => rw [h] at this; obtain ⟨z, e, q⟩ := this; exact ⟨z, e, t_r _ _ q⟩
  | exc c n => unfold repT at h; split at h <;> (try split at h) <;> cases h
  | bad => trivial
end
end DL

/-! readings: a list handed on and given back -/
namespace DL
open PySem PySem.Spec PyProof.Rows L2
section
variable {α β R S T : Type} {ρ : KEnv} {c : DL.Env → Out}
end
end DL
namespace DL
open PySem PySem.Spec PyProof.Rows L2
section
theorem pls_strs (n : Nat) : ∀ l : List Str, (∀ z ∈ l, PyData.strOk z = true) → D.pls (l.map D.str) n = true
  | [], _ => rfl
  | a :: l, h => by
    show (D.pl (.str a) n && D.pls (l.map D.str) n) = true
    rw [pls_strs n l (fun z hz => h z (List.mem_cons_of_mem _ hz)), Bool.and_true]
    exact h a List.mem_cons_self
end
end DL

/-! readings: values of dicts -/
namespace DL
open PySem PySem.Spec PyProof.Rows L2
section
end
end DL

/-! readings: lists of ranges, sorted texts, a tuple's index -/
namespace DL
open PySem PySem.Spec PyProof.Rows L2
section
variable {α β : Type} {ρ : KEnv} {f g : DL.Env → Res D}
end
end DL

/-! readings: dicts that are walked -/
namespace DL
open PySem PySem.Spec PyProof.Rows L2
section
variable {α β : Type} {ρ : KEnv} {g : DL.Env → Res D} {b : Bool} {f : α → D} {Ek : RE α} {E : RE β} {r : Res (List (α × β))}
end
end DL

/-! shares that may be a module's constants -/
namespace DL
open PySem PySem.Spec PyProof.Rows L2
end DL

/-! a module's constant dict with text keys and whole numbers: x in T, T[x] -/
namespace DL
open PySem PySem.Spec PyProof.Rows L2
structure DctOk (K : PySem.W.Frag) (w : World) (mg : Str → Option Value) (x : String) (tab : List (Str × Int)) : Prop where
  ok : ∃ (d : Addr) (es : Array DictEntry) (n : Nat), mg (Str.ofString x) = some (.ref d) ∧ KDict K w d es n ∧ ∀ z, match getG tab z with
    | some i => ∃ t, PySem.W.nsIn K d z = some (some (.int i t))
    | none => PySem.W.nsIn K d z = some none
section
variable {X : Cx} {W : WX} {A : Nat → Prop} {a : Expr} {pos p : Pos} {x : String} {tab : List (Str × Int)} {f : DL.Env → Res D}
end
end DL

/-! readings: texts in order, and more -/
namespace DL
open PySem PySem.Spec PyProof.Rows L2
section
open Classical in
noncomputable def sortSR (l : List Str) : Res (List Str) := if l.length ≤ 4000 ∧ ∀ x ∈ l, PyData.strOk x = true then .ok (sortS l) else .bad
theorem sort_S (l : List Str) {x : D} (h : x.items = some (l.map D.str)) : Rf (dSorted x) (sortSR l) (eL eS) := by
  unfold sortSR
  by_cases k : l.length ≤ 4000 ∧ ∀ x ∈ l, PyData.strOk x = true
  · rw [if_pos k]
    have e : l.map D.str = (l.map (Sum.inr : Str → Key)).map keyD := by rw [List.map_map]; rfl
    have ok : SortOk ((l.map (Sum.inr : Str → Key)).map keyD) := sortOk_keys (by rw [List.length_map, PySem.sizeLine_eq]; omega) (.inr fun z hz => by obtain ⟨i, hi, rfl⟩ := List.mem_map.mp hz; exact ⟨i, rfl, k.2 i hi⟩)
    refine ⟨.lst ((sortS l).map D.str), ?_, _, rfl, A2.fn.mpr rfl⟩
    unfold dSorted
    rw [h]
    dsimp only
    rw [e, if_pos ok, sortD_keys, sortKy_S, List.map_map]
    rfl
  · rw [if_neg k]; trivial
theorem o_sortMS {β : Type} {E : RE β} (m : List (Str × β)) : ∀ x, eM false D.str E m x → Rf (dSorted x) (sortSR (m.map (·.1))) (eL eS) := by
  rintro _ ⟨kvs, rfl, r⟩
  refine sort_S _ ?_
  have : ∀ {m : List (Str × β)} {kvs : List (D × D)}, A2 (fun (p : Str × β) (q : D × D) => q.1 = D.str p.1 ∧ E p.2 q.2) m kvs → kvs.map (·.1) = (m.map (·.1)).map D.str := by
    intro m
    induction m with
    | nil => intro kvs h; rw [show _ = [] from h]; rfl
    | cons p m ih => rintro _ ⟨q, r, rfl, ⟨h1, _⟩, h2⟩; rw [List.map_cons, List.map_cons, List.map_cons, ih h2]; rw [show q.1 = _ from h1]
  show some (kvs.map (·.1)) = _
  rw [this r]
end
end DL
namespace DL
/-- a loop that may give back before its end -/
theorem Ok.forX {α S R : Type} {f : α → S → Res (Oc S R)} {l : List α} {s : S} (I : List α → S → Prop) (Q : R → Prop) (h0 : I [] s) (h : ∀ d a r s, l = d ++ a :: r → I d s → Ok (f a s) fun o => match o with | .nx s' => I (d ++ [a]) s' | .rt v => Q v | .bk _ => False) :
    Ok (forX l s f) fun o => match o with | .nx s' => I l s' | .rt v => Q v | .bk _ => False := by
  have gen : ∀ (r d : List α) (s : S), l = d ++ r → I d s → Ok (DL.forX r s f) fun o => match o with | .nx s' => I l s' | .rt v => Q v | .bk _ => False := by
    intro r
    induction r with
    | nil => intro d s e hI; rw [e, List.append_nil]; exact ⟨_, rfl, hI⟩
    | cons a r ih =>
      intro d s e hI
      unfold DL.forX
      obtain ⟨o, eo, ho⟩ := h d a r s e hI
      rw [eo, Res.bind_ok]
      cases o with
      | nx s' => exact ih (d ++ [a]) s' (by rw [e, List.append_assoc]; rfl) ho
      | rt v => exact ⟨_, rfl, ho⟩
      | bk s' => exact ho.elim
  exact gen l [] s rfl h0
end DL

/-! readings: insert, try, what is a list or a tuple -/
namespace DL
open PySem PySem.Spec PyProof.Rows L2
section
variable {α β T S R : Type} {ρ ρ' ρx : KEnv} {a b c : DL.Env → Out}
/-! ### try -/
/-! ### a list or a tuple -/
def eW {α : Type} (E : RE α) : RE (List α) := fun l d => ∃ ds, (d = .lst ds ∨ d = .tup ds) ∧ A2 E l ds
/-! ### less known of what was handed on -/
def Lw : KEnv → KEnv → Prop := A2 fun r x => ∀ P, r = some P → ∃ P', x = some P' ∧ ∀ d o, P' d o → P d o
theorem Lw.nil : Lw [] [] := rfl
theorem Lw.same {r : Option Kn} {a b : KEnv} (s : Lw a b) : Lw (r :: a) (r :: b) := ⟨_, _, rfl, fun P h => ⟨P, h, fun _ _ h => h⟩, s⟩
end
section
variable {α β : Type}
/-! ### equality where texts stand in tuples -/
structure EqG {α : Type} [DecidableEq α] (E : RE α) (ok : α → Bool) (n : Nat) : Prop where
  pl : ∀ a d, ok a = true → E a d → d.pl n = true
  beq : ∀ a b x y, E a x → E b y → PyData.eqv x.py y.py = decide (a = b)
structure EqGQ {α : Type} [DecidableEq α] (Q : α → List D → Prop) (ok : α → Bool) (n : Nat) : Prop where
  pl : ∀ a d, ok a = true → Q a d → D.pls d n = true
  beq : ∀ a b x y, Q a x → Q b y → PyData.eqvAll (D.pys x) (D.pys y) = decide (a = b)
theorem EqG.of [DecidableEq α] {E : RE α} {n : Nat} (h : EqE E n) : EqG E (fun _ => true) n := ⟨fun a d _ r => h.pl a d r, h.beq⟩
theorem EqG.str (n : Nat) : EqG eS PyData.strOk n := ⟨by rintro a _ h rfl; exact h, by
  rintro a b _ _ rfl rfl
  simp [D.py, PyData.eqv]
  exact Bool.eq_iff_iff.mpr (by simp)⟩
theorem EqGQ.one [DecidableEq α] {E : RE α} {n : Nat} {ok : α → Bool} (h : EqG E ok n) : EqGQ (q1 E) ok n := ⟨by
  rintro a _ k ⟨d, rfl, hd⟩
  simp [D.pls, h.pl a d k hd], by
  rintro a b _ _ ⟨d, rfl, hd⟩ ⟨d', rfl, hd'⟩
  simp only [D.pys, PyData.eqvAll, h.beq a b d d' hd hd', Bool.and_true]⟩
theorem EqGQ.c [DecidableEq α] [DecidableEq β] {E : RE α} {Q : β → List D → Prop} {n : Nat} {ok : α → Bool} {ok' : β → Bool} (h : EqG E ok n) (k : EqGQ Q ok' n) : EqGQ (qC E Q) (fun p => ok p.1 && ok' p.2) n := ⟨by
  rintro ⟨a, b⟩ _ o ⟨d, r, rfl, hd, hr⟩
  simp only [Bool.and_eq_true] at o
  simp [D.pls, h.pl a d o.1 hd, k.pl b r o.2 hr], by
  rintro ⟨a, b⟩ ⟨a', b'⟩ _ _ ⟨d, r, rfl, hd, hr⟩ ⟨d', r', rfl, hd', hr'⟩
  simp only [D.pys, PyData.eqvAll, h.beq _ _ d d' hd hd', k.beq _ _ r r' hr hr']
  by_cases h1 : a = a' <;> by_cases h2 : b = b' <;> simp [h1, h2]⟩
theorem EqG.q [DecidableEq α] {Q : α → List D → Prop} {n : Nat} {ok : α → Bool} (h : EqGQ Q ok n) : EqG (eQ Q) ok (n + 1) := ⟨by
  rintro a _ o ⟨ds, rfl, r⟩
  exact h.pl a ds o r, by
  rintro a b _ _ ⟨ds, rfl, r⟩ ⟨ds', rfl, r'⟩
  rw [D.py, D.py, PyData.eqv]; exact h.beq _ _ _ _ r r'⟩
/-! ### dicts with row keys compared -/
end
end DL

/-! readings: defs that are lent lists and dicts -/
namespace DL
open PySem PySem.Spec PyProof.Rows L2
section
variable {α β R S T C C' : Type} {ρ ρ' : KEnv} {c : DL.Env → Out}
/-- what the lent names hold -/
def OwnsR (ρ : KEnv) (bs : List Nat) (EC : C → List D → Prop) (x : C) : Prop := ∀ e, Le ρ e → ∃ cs, owns bs e = some cs ∧ EC x cs
theorem ow_1 {i : Nat} {E : RE α} {x : α} (h : ρ[i]? = some (some (ow E x))) : OwnsR ρ [i] (q1 E) x := fun e l => by
  obtain ⟨d, o, h1, h2, h3⟩ := l.get h
  subst h3
  exact ⟨[d], by unfold owns owns; rw [h1], d, rfl, h2⟩
theorem owns_len : ∀ {bs : List Nat} {e : DL.Env} {cs : List D}, owns bs e = some cs → cs.length = bs.length
  | [], _, _, h => by cases h; rfl
  | i :: r, e, cs, h => by
    unfold owns at h
    split at h
    · split at h
      · rename_i q; cases h; rw [List.length_cons, List.length_cons, owns_len q]
      · cases h
    · cases h
/-- such a def's end -/
def PTM (bs : List Nat) (E : RE R) (EC : C → List D → Prop) : R × C → Out → Prop := fun p o => ∃ d e cs, (o = .rm d e ∨ (o = .nx e ∧ d = .non)) ∧ E p.1 d ∧ owns bs e = some cs ∧ EC p.2 cs
theorem j_retM {al : List Nat} {f : DL.Env → Res D} {x : Res R} {E : RE R} {bs : List Nat} {EC : C → List D → Prop} {z : C} (h : EvR ρ f x E) (ho : OwnsR (fzK al ρ) bs EC z) : J ρ (sSeq (sRetM al f) c) (x.bind fun v => .ok (v, z)) (PTM bs E EC) := fun e l => by
  have := h e l
  obtain ⟨cs, h1, h2⟩ := ho _ (l.fz al)
  cases x with
  | ok v =>
    obtain ⟨d, h3, h4⟩ := this
    refine ⟨d, fz al e, cs, .inl ?_, h4, h1, h2⟩
    rw [sSeq_app]
    unfold sRetM sE
    rw [h3]
  | exc cc fs =>
    refine ⟨fz al e, ?_⟩
    rw [sSeq_app]
    unfold sRetM sE
    rw [show f e = _ from this]
  | bad => trivial
/-- what such a def does -/
def RfM (bs : List Nat) (x : Res (D × List D)) (r : Res (R × C)) (E : RE R) (EC : C → List D → Prop) : Prop := match r with
  | .ok p => ∃ d cs, x = .ok (d, cs) ∧ E p.1 d ∧ EC p.2 cs ∧ cs.length = bs.length
  | .exc cn fs => x = .exc cn fs
  | .bad => True
def CallRM (bs : List Nat) (F : List D → Res (D × List D)) (Q : α → List D → Prop) (t : α → Res (R × C)) (E : RE R) (EC : C → List D → Prop) : Prop := ∀ a ds, Q a ds → RfM bs (F ds) (t a) E EC
/-- the names at its start -/
def LeAM (bs : List Nat) (k : Nat) (ds : List D) (ρ : KEnv) : Prop := Le ρ (envMa bs k ds)
theorem LeAM.nil {bs : List Nat} {k : Nat} : LeAM bs k [] [] := rfl
theorem LeAM.sh {bs : List Nat} {k : Nat} {E : RE α} {x : α} {d : D} {ds : List D} (h : E x d) (hb : bs.elem k = false) (t : LeAM bs (k + 1) ds ρ) : LeAM bs k (d :: ds) (some (sh E x) :: ρ) := ⟨some (d, bs.elem k), _, rfl, fun P hP => ⟨d, _, rfl, by cases hP; exact ⟨h, hb⟩⟩, t⟩
theorem LeAM.ow {bs : List Nat} {k : Nat} {E : RE α} {x : α} {d : D} {ds : List D} (h : E x d) (hb : bs.elem k = true) (t : LeAM bs (k + 1) ds ρ) : LeAM bs k (d :: ds) (some (DL.ow E x) :: ρ) := ⟨some (d, bs.elem k), _, rfl, fun P hP => ⟨d, _, rfl, by cases hP; exact ⟨h, hb⟩⟩, t⟩
theorem Le.app : ∀ {ρ : KEnv} {e : DL.Env} (n : Nat), Le ρ e → Le (ρ ++ List.replicate n none) (e ++ List.replicate n none)
  | [], _, n, h => by rw [show _ = [] from h]; exact Le.rep n
  | r :: ρ, _, n, ⟨y, _, rfl, h1, h2⟩ => ⟨y, _, rfl, h1, Le.app n h2⟩
theorem r_defM {n m k : Nat} {bs : List Nat} {fb : DL.Env → Out} {ds : List D} {x : Res (R × C)} {E : RE R} {EC : C → List D → Prop} (h : LeAM bs 0 ds ρ) (hk : m - n = k) (j : J (ρ ++ List.replicate k none) fb x (PTM bs E EC)) : RfM bs (runDefM n m bs fb ds) x E EC := by
  subst hk
  have := j _ (Le.app (m - n) h)
  unfold runDefM envM
  cases x with
  | ok p =>
    obtain ⟨d, e, cs, h1, h2, h3, h4⟩ := this
    refine ⟨d, cs, ?_, h2, h4, owns_len h3⟩
    rcases h1 with h1 | ⟨h1, rfl⟩
    · rw [h1]; dsimp only; rw [h3]
    · rw [h1]; dsimp only; rw [h3]
  | exc cn fs => obtain ⟨e', h1⟩ := this; rw [h1]; rfl
  | bad => trivial
/-! ### calls -/
inductive KM where
  | v
  | o (i : Nat)
  | n
def kindM : List MA → List KM
  | [] => []
  | .val _ :: r => .v :: kindM r
  | .own i :: r => .o i :: kindM r
  | .new _ :: r => .n :: kindM r
def lentK : List KM → List Nat
  | [] => []
  | .o i :: r => i :: lentK r
  | .v :: r => lentK r
  | .n :: r => lentK r
def backK : List KM → List D → List D
  | .o _ :: r, c :: cs => c :: backK r cs
  | .n :: r, _ :: cs => backK r cs
  | .v :: r, cs => backK r cs
  | _, _ => []
def posK : Nat → List KM → List Nat
  | _, [] => []
  | k, .v :: r => posK (k + 1) r
  | k, .o _ :: r => k :: posK (k + 1) r
  | k, .n :: r => k :: posK (k + 1) r
theorem lent_kind : ∀ l, lentOf l = lentK (kindM l)
  | [] => rfl
  | .val _ :: r => lent_kind r
  | .own i :: r => congrArg (i :: ·) (lent_kind r)
  | .new _ :: r => lent_kind r
theorem back_kind : ∀ l cs, backOf l cs = backK (kindM l) cs
  | [], _ => by simp [backOf, backK, kindM]
  | .val _ :: r, cs => by cases cs <;> simp [backOf, backK, kindM, back_kind r]
  | .own i :: r, c :: cs => congrArg (c :: ·) (back_kind r cs)
  | .own i :: r, [] => rfl
  | .new _ :: r, c :: cs => back_kind r cs
  | .new _ :: r, [] => rfl
theorem pos_kind : ∀ k l, posOf k l = posK k (kindM l)
  | _, [] => rfl
  | k, .val _ :: r => pos_kind (k + 1) r
  | k, .own _ :: r => congrArg (k :: ·) (pos_kind (k + 1) r)
  | k, .new _ :: r => congrArg (k :: ·) (pos_kind (k + 1) r)
/-- what is handed over -/
def EvM (al : List Nat) (ρ : KEnv) (fs : DL.Env → Res (List MA)) (r : Res α) (Q : α → List D → Prop) (ks : List KM) : Prop := ∀ e, Le ρ e → match r with
  | .ok a => ∃ l, fs e = .ok l ∧ kindM l = ks ∧ ownedB (fz al e) (lentOf l) = true ∧ Q a (dsOf (fz al e) l)
  | .exc cn xs => fs e = .exc cn xs
  | .bad => True
variable {al : List Nat}
theorem em_v {f : DL.Env → Res D} {fs : DL.Env → Res (List MA)} {E : RE α} {Q : β → List D → Prop} {r : Res α} {r' : Res β} {ks : List KM} (h : EvR ρ f r E) (t : EvM al ρ fs r' Q ks) : EvM al ρ (mVal f fs) (r.bind fun x => r'.bind fun y => .ok (x, y)) (qC E Q) (.v :: ks) := fun e l => by
  have h1 := h e l
  have h2 := t e l
  unfold mVal
  cases r with
  | ok a =>
    obtain ⟨d, a1, a2⟩ := h1
    cases r' with
    | ok b =>
      obtain ⟨l', b1, b2, b3, b4⟩ := h2
      exact ⟨.val d :: l', by rw [a1, Res.bind_ok, b1]; rfl, by rw [kindM, b2], b3, d, _, rfl, a2, b4⟩
    | exc cn xs => show Res.bind (f e) _ = _; rw [a1, Res.bind_ok, show fs e = _ from h2]; rfl
    | bad => trivial
  | exc cn xs => show Res.bind (f e) _ = _; rw [show f e = _ from h1]; rfl
  | bad => trivial
theorem own_at {i : Nat} {E : RE α} {x : α} (h1 : ρ[i]? = some (some (ow E x))) (h2 : (fzK al ρ)[i]? = some (some (ow E x))) {e : DL.Env} (l : Le ρ e) : ∃ d d', e[i]? = some (some (d', true)) ∧ (fz al e)[i]? = some (some (d, true)) ∧ E x d := by
  obtain ⟨d', o', a1, a2, a3⟩ := l.get h1
  obtain ⟨d, o, b1, b2, b3⟩ := (l.fz al).get h2
  subst a3 b3
  exact ⟨d, d', a1, b1, b2⟩
theorem em_o1 {i : Nat} {E : RE α} {x : α} (h1 : ρ[i]? = some (some (ow E x))) (h2 : (fzK al ρ)[i]? = some (some (ow E x))) : EvM al ρ (mLent i mNil) (.ok x) (q1 E) [.o i] := fun e l => by
  obtain ⟨d, d', a1, a2, a3⟩ := own_at h1 h2 l
  refine ⟨[.own i], by unfold mLent; rw [a1]; rfl, rfl, ?_, d, ?_, a3⟩
  · show ownedB _ [i] = true
    unfold ownedB
    simp [a2]
  · show [_] = [d]
    rw [a2]
/-- what is given back -/
def GiveR (ρ : KEnv) (ks : List KM) (EC : C → List D → Prop) (ρs : C → KEnv) : Prop := ∀ e, Le ρ e → ∀ z cs, EC z cs → Le (ρs z) (giveB (lentK ks) (backK ks cs) e)
def noL : List KM → Bool
  | [] => true
  | .v :: r => noL r
  | _ => false
theorem noL_give : ∀ {ks : List KM}, noL ks = true → lentK ks = []
  | [], _ => rfl
  | .v :: r, h => noL_give (ks := r) h
theorem gv_v {ks : List KM} {EC : C → List D → Prop} {ρs : C → KEnv} (h : GiveR ρ ks EC ρs) : GiveR ρ (.v :: ks) EC ρs := fun e l z cs hc => by
  have := h e l z cs hc
  show Le _ (giveB (lentK ks) (backK (.v :: ks) cs) e)
  have q : backK (.v :: ks) cs = backK ks cs := by cases cs <;> rfl
  rw [q]
  exact this
theorem gv_o1 {i : Nat} {ks : List KM} {E : RE α} (h : noL ks = true) : GiveR ρ (.o i :: ks) (q1 E) (fun x => ρ.set i (some (ow E x))) := fun e l z cs hc => by
  obtain ⟨d, rfl, hd⟩ := hc
  show Le _ (giveB (i :: lentK ks) (d :: backK ks []) e)
  rw [noL_give h]
  exact l.set i ⟨hd, rfl⟩
/-- x = f(..) -/
theorem d_setM {i : Nat} {bs : List Nat} {F : List D → Res (D × List D)} {fs : DL.Env → Res (List MA)} {Q : α → List D → Prop} {t : α → Res (R × C)} {E : RE R} {EC : C → List D → Prop} {r : Res α} {ks : List KM} {ρs : C → KEnv}
    (cc : CallRM bs F Q t E EC) (h : EvM al ρ fs r Q ks) (hp : posK 0 ks = bs) (hn : (lentK ks).Nodup) (hg : GiveR (fzK al ρ) ks EC ρs) : J ρ (sSetM al i bs F fs) (r.bind t) (PN fun p => (ρs p.2).set i (some (sh E p.1))) := fun e l => by
  have q := h e l
  unfold sSetM callM sE
  cases r with
  | ok a =>
    obtain ⟨m, e1, e2, e3, e4⟩ := q
    rw [e1]
    dsimp only
    have c1 : decide (posOf 0 m = bs) = true := decide_eq_true (by rw [pos_kind, e2, hp])
    have c2 : decide (lentOf m).Nodup = true := decide_eq_true (by rw [lent_kind, e2]; exact hn)
    rw [if_pos (by rw [c1, c2, e3]; rfl)]
    have w := cc a _ e4
    unfold RfM at w
    rw [Res.bind_ok]
    show JM (t a) _ _
    cases ht : t a with
    | ok p =>
      rw [ht] at w
      obtain ⟨d, cs, w1, w2, w3, w4⟩ := w
      rw [w1]
      dsimp only
      rw [if_pos w4]
      refine ⟨_, rfl, ?_⟩
      have g := hg _ (l.fz al) p.2 cs w3
      rw [lent_kind, back_kind, e2]
      exact g.set i ⟨w2, rfl⟩
    | exc cn xs => rw [ht] at w; rw [show F _ = _ from w]; exact ⟨_, rfl⟩
    | bad => trivial
  | exc cn xs => rw [show fs e = _ from q]; exact ⟨_, rfl⟩
  | bad => trivial
end
end DL
namespace DL
open PySem PySem.Spec PyProof.Rows L2
end DL

/-! readings: loops of a def that is lent lists and dicts, with returns in them -/
namespace DL
open PySem PySem.Spec PyProof.Rows L2
section
variable {α β R S T C : Type} {ρ ρ' : KEnv} {a b c : DL.Env → Out} {P : T → Out → Prop}
end
end DL
namespace DL
open PySem PySem.Spec PyProof.Rows L2
end DL
namespace DL
open PySem PySem.Spec PyProof.Rows L2
end DL

/-! readings: what a lent def tells is given on, taken apart, or stands in a pair -/
namespace DL
open PySem PySem.Spec PyProof.Rows L2
section
variable {α β γ R S T C C' : Type} {ρ ρ' : KEnv} {c : DL.Env → Out} {al : List Nat}
end
end DL
namespace DL
open PySem PySem.Spec PyProof.Rows L2
/-! ### places in texts -/
end DL
namespace DL
end DL
namespace DL
section
variable {α : Type} {ρ : KEnv} {E : RE α} {f : α → D} {g : DL.Env → Res D}
theorem v_mapF {r : Res α} (p : Fun E f) (h : EvR ρ g r E) : EvR ρ g (r.bind fun z => .ok (f z)) eD := v_map h fun _ _ h => (p _ _).mp h
theorem v_castF {a : α} (p : Fun E f) (h : EvR ρ g (.ok a) E) : EvR ρ g (.ok (f a)) eD := v_cast h fun _ h => (p _ _).mp h
end
end DL
namespace DL
end DL

/-! readings: x.update(e); statements never reached -/
namespace DL
open PySem PySem.Spec PyProof.Rows L2
section
variable {α β T : Type} {ρ : KEnv} {c : DL.Env → Out}
variable [DecidableEq α] {f : α → D} {E : RE β}
end
section
variable {ρ : KEnv} {f : DL.Env → Res D}
end
section
variable {α : Type} {E : RE α} {x : α} {a b : KEnv}
end
section
variable {ρ : KEnv} {f : DL.Env → Res D}
end
end DL

namespace DL
open PySem PySem.Spec PyProof.Rows L2
theorem dv {X : Cx} {W : WX} {A : Nat → Prop} (i : Nat) {x : Str} {pos : Pos} (hN : X.N[i]? = some x := by rfl) (hv : Vis X.env.scope x := by first | exact .inl rfl | exact .inr (.inl rfl) | exact .inr (.inr rfl)) (hd : (x == ("__debug__" : Str)) = false := by decide) (hcd : (x == ("__classdict__" : Str)) = false := by decide) : DE X W A (.Name x pos) (eVarS i) := de_vs hN hv hd hcd
theorem vI {ρ : KEnv} (n : Int) : EvR ρ (eC (.int n)) (.ok (D.int n)) eD := v_castF (f := D.int) Fun.int (v_c (E := eI) (a := n) rfl)
theorem vT {ρ : KEnv} (n : Str) : EvR ρ (eC (.str n)) (.ok (D.str n)) eD := v_castF (f := D.str) Fun.str (v_c (E := eS) (a := n) rfl)
theorem vN {ρ : KEnv} (n : Int) : EvR ρ (eC (.int n)) (.ok n) eI := v_c (E := eI) (a := n) rfl
theorem szl {n : Nat} (h : n ≤ 1000000) : n ≤ sizeLine := by rw [PySem.sizeLine_eq]; omega
end DL

namespace DLaw
open DL PySem PySem.Spec PyProof.Rows L2
open PySem.Builtin.Int (intBits)
def top (i : Nat) : Stmt := PySem.Challenge.pw_blurdesk_k21_widths_depths_names.main.body.getD i (.Pass ⟨0, 0, 0, 0⟩)
/-! what the top says of the built-ins and errors -/
structure Txt (K : PySem.W.Frag) (mg : Str → Option Value) : Prop where
  z_len : mg "len" = none
  z_range : mg "range" = none
  z_tuple : mg "tuple" = none
  z_max : mg "max" = none
  z_set : mg "set" = none
  z_sorted : mg "sorted" = none
  z_isinstance : mg "isinstance" = none
  z_int : mg "int" = none
  z_bool : mg "bool" = none
  z_list : mg "list" = none
  c_MOST_FIELDS : ConOk K mg "MOST_FIELDS" (.int 4)
/-! _law_cell_at -/
abbrev s_l_cell_at : Stmt := top 19
noncomputable def b_l_cell_at : DL.Env → Out := (sSeq (sIf [] (bTest dLt (eVarS 1) (e1 dLen (eVarS 0))) (sSeq (sRet [] (eOp dIxA (eVarS 0) (eVarS 1))) sSkip) sSkip) (sSeq (sRet [] (eC (.int 0))) sSkip))
noncomputable def F_l_cell_at : List D → Res D := runDef 2 2 b_l_cell_at
/-! _law_mix -/
abbrev s_l_mix : Stmt := top 15
noncomputable def b_l_mix : DL.Env → Out := (sSeq (sSet [] 2 (eOp dMod (eOp dAdd (eOp dMul (eVarS 0) (eC (.int 48271))) (eOp dMul (eOp dMul (eOp dAdd (eVarS 1) (eC (.int 1))) (eOp dAdd (eVarS 1) (eC (.int 1)))) (eC (.int 69621)))) (eC (.int 2147483647)))) (sSeq (sRet [] (eOp dMod (eOp dMul (eVarS 2) (eVarS 2)) (eC (.int 2147483629)))) sSkip))
noncomputable def F_l_mix : List D → Res D := runDef 2 3 b_l_mix
/-! _law_number -/
abbrev s_l_number : Stmt := top 16
noncomputable def b_l_number : DL.Env → Out := (sSeq (sSet [] 3 (eCall F_l_mix (aCons (eVarS 0) (aCons (eVarS 1) aNil)))) (sSeq (sIf [] (bTest dEq (eOp dMod (eVarS 3) (eC (.int 5))) (eC (.int 0))) (sSeq (sRet [] (eOp dSub (eOp dMod (eVarS 0) (eOp dAdd (eOp dMul (eC (.int 2)) (eOp dPow (eC (.int 10)) (eC (.int 18)))) (eC (.int 1)))) (eOp dPow (eC (.int 10)) (eC (.int 18))))) sSkip) sSkip) (sSeq (sRet [] (eOp dSub (eOp dMod (eOp dDiv (eVarS 3) (eC (.int 5))) (eVarS 2)) (eOp dDiv (eVarS 2) (eC (.int 2))))) sSkip)))
noncomputable def F_l_number : List D → Res D := runDef 3 4 b_l_number
/-! _law_leaf -/
abbrev s_l_leaf : Stmt := top 17
noncomputable def b_l_leaf : DL.Env → Out := (sSeq (sSet [] 3 (eCall F_l_mix (aCons (eVarS 0) (aCons (eVarS 1) aNil)))) (sSeq (sIf [] (bTest dEq (eOp dMod (eVarS 3) (eC (.int 4))) (eC (.int 0))) (sSeq (sRet [] (eTup (aCons (eC (.str "num")) (aCons (eCall F_l_number (aCons (eVarS 0) (aCons (eOp dAdd (eVarS 1) (eC (.int 100))) (aCons (eC (.int 7)) aNil)))) aNil)))) sSkip) sSkip) (sSeq (sIf [] (bTest dEq (eOp dMod (eVarS 3) (eC (.int 8))) (eC (.int 1))) (sSeq (sRet [] (eTup (aCons (eC (.str "name")) (aCons (eOp dIxA (eLst (aCons (eC (.str "a")) (aCons (eC (.str "b")) (aCons (eC (.str "c")) aNil)))) (eOp dMod (eOp dDiv (eVarS 3) (eC (.int 8))) (eC (.int 3)))) aNil)))) sSkip) sSkip) (sSeq (sRet [] (eTup (aCons (eC (.str "field")) (aCons (eOp dMod (eOp dDiv (eVarS 3) (eC (.int 8))) (eVarS 2)) aNil)))) sSkip))))
noncomputable def F_l_leaf : List D → Res D := runDef 3 4 b_l_leaf
/-! _law_term -/
abbrev s_l_term : Stmt := top 18
noncomputable def b_l_term : DL.Env → Out := (sSeq (sSet [] 3 (eCall F_l_mix (aCons (eVarS 0) (aCons (eVarS 1) aNil)))) (sSeq (sSet [] 4 (eCall F_l_leaf (aCons (eVarS 0) (aCons (eOp dAdd (eVarS 1) (eC (.int 20))) (aCons (eVarS 2) aNil))))) (sSeq (sSet [] 5 (eCall F_l_leaf (aCons (eVarS 0) (aCons (eOp dAdd (eVarS 1) (eC (.int 40))) (aCons (eVarS 2) aNil))))) (sSeq (sSet [] 6 (eOp dMod (eVarS 3) (eC (.int 8)))) (sSeq (sIf [] (bTest dLt (eVarS 6) (eC (.int 3))) (sSeq (sRet [] (eVarS 4)) sSkip) sSkip) (sSeq (sIf [] (bTest dEq (eVarS 6) (eC (.int 3))) (sSeq (sRet [] (eTup (aCons (eC (.str "not")) (aCons (eVarS 4) aNil)))) sSkip) sSkip) (sSeq (sIf [] (bTest dEq (eVarS 6) (eC (.int 4))) (sSeq (sRet [] (eTup (aCons (eC (.str "pick")) (aCons (eVarS 4) (aCons (eVarS 5) (aCons (eCall F_l_leaf (aCons (eVarS 0) (aCons (eOp dAdd (eVarS 1) (eC (.int 60))) (aCons (eVarS 2) aNil)))) aNil)))))) sSkip) sSkip) (sSeq (sSet [] 7 (eLst (aCons (eC (.str "add")) (aCons (eC (.str "sub")) (aCons (eC (.str "mul")) (aCons (eC (.str "quo")) (aCons (eC (.str "less")) (aCons (eC (.str "same")) (aCons (eC (.str "both")) (aCons (eC (.str "any")) aNil)))))))))) (sSeq (sRet [] (eTup (aCons (eOp dIxA (eVarS 7) (eOp dMod (eOp dDiv (eVarS 3) (eC (.int 8))) (eC (.int 8)))) (aCons (eVarS 4) (aCons (eVarS 5) aNil))))) sSkip)))))))))
noncomputable def F_l_term : List D → Res D := runDef 3 8 b_l_term
/-! _law_made_pairs -/
abbrev s_l_made_pairs : Stmt := top 22
noncomputable def b_l_made_pairs_1 : DL.Env → Out := (sSeq (sSet [] 5 (eOp dAdd (eVarS 0) (eOp dMul (eOp dMul (eVarS 4) (eVarS 4)) (eC (.int 7919))))) (sSeq (sSet [] 6 (e1 dTuple (eComp [7] (.nm 7) (iRange1 (eOp dAdd (eC (.int 1)) (eOp dMod (eOp dDiv (eVarS 2) (eC (.int 9))) (eOp dSub (eC (.int 4)) (eVarS 1))))) bYes (eCall F_l_number (aCons (eVarS 5) (aCons (eOp dAdd (eC (.int 340)) (eVarS 7)) (aCons (eC (.int 3)) aNil))))))) (sSeq (sMut [] 3 gAppend (aCons (eTup (aCons (eOp dSub (eOp dMod (eCall F_l_mix (aCons (eVarS 5) (aCons (eC (.int 350)) aNil))) (eC (.int 3))) (eC (.int 1))) (aCons (eVarS 6) aNil))) aNil)) sSkip)))
noncomputable def b_l_made_pairs : DL.Env → Out := (sSeq (sSet [] 2 (eCall F_l_mix (aCons (eVarS 0) (aCons (eC (.int 330)) aNil)))) (sSeq (sSetF [] 3 (eLst aNil)) (sSeq (sIf [] (bTest dEq (eVarS 1) (eC (.int 4))) (sSeq (sRet [] (eTup aNil)) sSkip) sSkip) (sSeq (sFor [] (.nm 4) (iRange1 (eOp dMod (eVarS 2) (eC (.int 9)))) b_l_made_pairs_1) (sSeq (sRet [] (e1 dTuple (eVar 3))) sSkip)))))
noncomputable def F_l_made_pairs : List D → Res D := runDef 2 8 b_l_made_pairs
/-! _law_most -/
abbrev s_l_most : Stmt := top 23
noncomputable def b_l_most : DL.Env → Out := (sSeq (sSet [] 1 (eComp [2] (.nm 2) (iSeq (eVarS 0)) bYes (eOp dIx (eVarS 2) (eC (.int 0))))) (sSeq (sRet [] (e1 (dMaxDef 0) (eComp [3] (.nm 3) (iSeq (eVarS 1)) bYes (eMeth "list" dCountI (eVarS 1) (aCons (eVarS 3) aNil))))) sSkip))
noncomputable def F_l_most : List D → Res D := runDef 1 4 b_l_most
/-! _law_grown -/
abbrev s_l_grown : Stmt := top 24
noncomputable def b_l_grown_1 : DL.Env → Out := (sSeq (sMut [] 10 gAppend (aCons (e1 dTuple (eComp [12] (.nm 12) (iRange1 (eVarS 9)) bYes (eCall F_l_term (aCons (eOp dAdd (eVarS 0) (eOp dMul (eVarS 11) (eVarS 11))) (aCons (eOp dAdd (eC (.int 370)) (eOp dMul (eC (.int 7)) (eVarS 12))) (aCons (eVarS 3) aNil)))))) aNil)) sSkip)
noncomputable def b_l_grown : DL.Env → Out := (sSeq (sAsg [] (.tp [(.nm 2), (.nm 3), (.nm 4), (.nm 5), (.nm 6)]) (eOp dIx (eVar 1) (eNeg (eC (.int 1))))) (sSeq (sSet [] 7 (eCall F_l_mix (aCons (eVarS 0) (aCons (eC (.int 310)) aNil)))) (sSeq (sSet [] 8 (eOp dMod (eVarS 7) (eC (.int 7)))) (sSeq (sSet [] 7 (eOp dDiv (eVarS 7) (eC (.int 7)))) (sSeq (sIf [] (bTest dLt (eVarS 8) (eC (.int 2))) (sSeq (sRetM [] (eTup (aCons (eTup (aCons (eC (.str "keep")) (aCons (eCall F_l_term (aCons (eVarS 0) (aCons (eC (.int 360)) (aCons (eVarS 3) aNil)))) (aCons (eVarS 2) aNil)))) (aCons (eVarS 3) (aCons (eVarS 4) (aCons (eVarS 5) (aCons (eOp dAdd (eVarS 6) (eC (.int 1))) aNil))))))) sSkip) sSkip) (sSeq (sIf [] (bTest dEq (eVarS 8) (eC (.int 2))) (sSeq (sSet [] 9 (eOp dAdd (eC (.int 1)) (eOp dMod (eOp dDiv (eVarS 7) (eC (.int 3))) (eC (.int 4))))) (sSeq (sSetF [] 10 (eLst aNil)) (sSeq (sFor [] (.nm 11) (iRange1 (eOp dAdd (eC (.int 1)) (eOp dMod (eVarS 7) (eC (.int 3))))) b_l_grown_1) (sSeq (sRetM [] (eTup (aCons (eTup (aCons (eC (.str "rows")) (aCons (e1 dTuple (eVar 10)) (aCons (eVarS 2) aNil)))) (aCons (eVarS 9) (aCons (eOp dMul (eVarS 4) (e1 dLen (eVar 10))) (aCons (eVarS 5) (aCons (eOp dAdd (eVarS 6) (eC (.int 1))) aNil))))))) sSkip)))) sSkip) (sSeq (sIf [] (bTest dEq (eVarS 8) (eC (.int 3))) (sSeq (sRetM [] (eTup (aCons (eTup (aCons (eC (.str "unlike")) (aCons (eVarS 2) aNil))) (aCons (eVarS 3) (aCons (eVarS 4) (aCons (eVarS 5) (aCons (eOp dAdd (eVarS 6) (eC (.int 1))) aNil))))))) sSkip) sSkip) (sSeq (sIf [] (bTest dEq (eVarS 8) (eC (.int 4))) (sSeq (sSet [] 13 (eOp dIxA (eLst (aCons (eC (.int 1)) (aCons (eC (.int 2)) (aCons (eC (.int 3)) (aCons (eC (.int 1)) (aCons (eOp dAdd (eC (.int 1)) (eOp dMod (eOp dDiv (eVarS 7) (eC (.int 5))) (eC (.int 40)))) aNil)))))) (eOp dMod (eVarS 7) (eC (.int 5))))) (sSeq (sRetM [] (eTup (aCons (eTup (aCons (eC (.str "cap")) (aCons (eCall F_l_term (aCons (eVarS 0) (aCons (eC (.int 360)) (aCons (eVarS 3) aNil)))) (aCons (eVarS 13) (aCons (eVarS 2) aNil))))) (aCons (eVarS 3) (aCons (eOp dMul (eVarS 4) (eC (.int 2))) (aCons (eC (.bl false)) (aCons (eOp dAdd (eVarS 6) (eC (.int 1))) aNil))))))) sSkip)) sSkip) (sSeq (sIf [] (bTest dEq (eVarS 8) (eC (.int 5))) (sSeq (sSet [] 14 (eComp [15] (.nm 15) (iSeq (eVar 1)) (bTest dEq (eOp dIx (eVarS 15) (eC (.int 1))) (eVarS 3)) (eVarS 15))) (sSeq (sSet [] 16 (eOp dIxA (eVarS 14) (eOp dMod (eVarS 7) (e1 dLen (eVarS 14))))) (sSeq (sRetM [] (eTup (aCons (eTup (aCons (eC (.str "both")) (aCons (eVarS 2) (aCons (eOp dIx (eVarS 16) (eC (.int 0))) aNil)))) (aCons (eVarS 3) (aCons (eOp dAdd (eVarS 4) (eOp dIx (eVarS 16) (eC (.int 2)))) (aCons (eAnd (eVarS 5) (eOp dIx (eVarS 16) (eC (.int 3)))) (aCons (eOp dAdd (eC (.int 1)) (eOp dMax (eVarS 6) (eOp dIx (eVarS 16) (eC (.int 4))))) aNil))))))) sSkip))) sSkip) (sSeq (sSet [] 17 (eCall F_l_made_pairs (aCons (eVarS 0) (aCons (eVarS 3) aNil)))) (sSeq (sIf [] (bTest dGt (e1 dLen (eVarS 17)) (eC (.int 0))) (sSeq (sSet [] 3 (eOp dAdd (eVarS 3) (e1 dLen (eOp dIx (eOp dIx (eVarS 17) (eC (.int 0))) (eC (.int 1)))))) sSkip) sSkip) (sSeq (sSet [] 2 (eTup (aCons (eC (.str "match")) (aCons (eVarS 17) (aCons (eCall F_l_term (aCons (eVarS 0) (aCons (eC (.int 360)) (aCons (eOp dIx (eOp dIx (eVar 1) (eNeg (eC (.int 1)))) (eC (.int 1))) aNil)))) (aCons (eVarS 2) aNil)))))) (sSeq (sRetM [] (eTup (aCons (eVarS 2) (aCons (eVarS 3) (aCons (eOp dMul (eVarS 4) (eCall F_l_most (aCons (eVarS 17) aNil))) (aCons (eVarS 5) (aCons (eOp dAdd (eVarS 6) (eC (.int 1))) aNil))))))) sSkip)))))))))))))
noncomputable def F_l_grown : List D → Res (D × List D) := runDefM 2 18 [1] b_l_grown
/-! _law_views -/
abbrev s_l_views : Stmt := top 25
noncomputable def b_l_views_1 : DL.Env → Out := (sSeq (sSetM [] 4 [1] F_l_grown (mVal (eVarS 3) (mLent 2 mNil))) (sSeq (sIf [] (bAnd (bTest dLe (eOp dIx (eVarS 4) (eC (.int 2))) (eC (.int 64))) (bTest dLe (eOp dIx (eVarS 4) (eC (.int 4))) (eC (.int 6)))) (sSeq (sMut [] 2 gAppend (aCons (eVarS 4) aNil)) sSkip) sSkip) sSkip))
noncomputable def b_l_views : DL.Env → Out := (sSeq (sSetF [] 2 (eLst (aCons (eTup (aCons (eTup (aCons (eC (.str "all")) aNil)) (aCons (eVarS 1) (aCons (eC (.int 1)) (aCons (eC (.bl true)) (aCons (eC (.int 1)) aNil)))))) aNil))) (sSeq (sFor [] (.nm 3) (iSeq (eVarS 0)) b_l_views_1) (sSeq (sRet [2] (eVar 2)) sSkip)))
noncomputable def F_l_views : List D → Res D := runDef 2 5 b_l_views
/-! inner_views -/
abbrev s_inner_views : Stmt := top 8
noncomputable def b_inner_views : DL.Env → Out := (sSeq (sIf [] (bTest dEq (eOp dIx (eVarS 0) (eC (.int 0))) (eC (.str "all"))) (sSeq (sRet [] (eLst aNil)) sSkip) sSkip) (sSeq (sIf [] (bTest dEq (eOp dIx (eVarS 0) (eC (.int 0))) (eC (.str "both"))) (sSeq (sRet [] (eLst (aCons (eOp dIx (eVarS 0) (eC (.int 1))) (aCons (eOp dIx (eVarS 0) (eC (.int 2))) aNil)))) sSkip) sSkip) (sSeq (sRet [] (eLst (aCons (eOp dIx (eVarS 0) (eNeg (eC (.int 1)))) aNil))) sSkip)))
noncomputable def F_inner_views : List D → Res D := runDef 1 1 b_inner_views
/-! all_alike -/
abbrev s_all_alike : Stmt := top 9
noncomputable def b_all_alike : DL.Env → Out := (sSeq (sRet [] (eOp dLe (e1 dLenSet (eVarS 0)) (eC (.int 1)))) sSkip)
noncomputable def F_all_alike : List D → Res D := runDef 1 1 b_all_alike
/-! own_terms -/
abbrev s_own_terms : Stmt := top 7
noncomputable def b_own_terms_1 : DL.Env → Out := (sSeq (sMut [] 2 gExtend (aCons (eVarS 3) aNil)) sSkip)
noncomputable def b_own_terms : DL.Env → Out := (sSeq (sSet [] 1 (eOp dIx (eVarS 0) (eC (.int 0)))) (sSeq (sIf [] (bOr (bTest dEq (eVarS 1) (eC (.str "keep"))) (bTest dEq (eVarS 1) (eC (.str "cap")))) (sSeq (sRet [] (eLst (aCons (eOp dIx (eVarS 0) (eC (.int 1))) aNil))) sSkip) sSkip) (sSeq (sIf [] (bTest dEq (eVarS 1) (eC (.str "match"))) (sSeq (sRet [] (eLst (aCons (eOp dIx (eVarS 0) (eC (.int 2))) aNil))) sSkip) sSkip) (sSeq (sSetF [] 2 (eLst aNil)) (sSeq (sIf [] (bTest dEq (eVarS 1) (eC (.str "rows"))) (sSeq (sFor [] (.nm 3) (iSeq (eOp dIx (eVarS 0) (eC (.int 1)))) b_own_terms_1) sSkip) sSkip) (sSeq (sRet [2] (eVar 2)) sSkip))))))
noncomputable def F_own_terms : List D → Res D := runDef 1 4 b_own_terms
/-! is_leaf -/
abbrev s_is_leaf : Stmt := top 1
noncomputable def b_is_leaf : DL.Env → Out := (sSeq (sRet [] (eOr (eOp dEq (eOp dIx (eVarS 0) (eC (.int 0))) (eC (.str "num"))) (eOr (eOp dEq (eOp dIx (eVarS 0) (eC (.int 0))) (eC (.str "field"))) (eOp dEq (eOp dIx (eVarS 0) (eC (.int 0))) (eC (.str "name")))))) sSkip)
noncomputable def F_is_leaf : List D → Res D := runDef 1 1 b_is_leaf
/-! gathered -/
abbrev s_gathered : Stmt := top 2
noncomputable def b_gathered_1 (G : List D → Res D) : DL.Env → Out := (sSeq (sMut [] 2 gExtend (aCons (eCall G (aCons (eVarS 3) (aCons (eVarS 1) aNil))) aNil)) sSkip)
noncomputable def b_gathered (G : List D → Res D) : DL.Env → Out := (sSeq (sIf [] (bTruth (eCall F_is_leaf (aCons (eVarS 0) aNil))) (sSeq (sIf [] (bTest dEq (eOp dIx (eVarS 0) (eC (.int 0))) (eVarS 1)) (sSeq (sRet [] (eLst (aCons (eOp dIx (eVarS 0) (eC (.int 1))) aNil))) sSkip) sSkip) (sSeq (sRet [] (eLst aNil)) sSkip)) sSkip) (sSeq (sSetF [] 2 (eLst aNil)) (sSeq (sFor [] (.nm 3) (iSeq (eCut (eVarS 0) (oSome (eC (.int 1))) oNone)) (b_gathered_1 G)) (sSeq (sRet [2] (eVar 2)) sSkip))))
noncomputable def R_gathered : Nat → List D → Res D
  | 0 => fun _ => .bad
  | j + 1 => runDef 2 4 (b_gathered (R_gathered j))
noncomputable def F_gathered : List D → Res D := R_gathered 12
/-! fields_in -/
abbrev s_fields_in : Stmt := top 4
noncomputable def b_fields_in : DL.Env → Out := (sSeq (sRet [] (e1 dSortSet (eCall F_gathered (aCons (eVarS 0) (aCons (eC (.str "field")) aNil))))) sSkip)
noncomputable def F_fields_in : List D → Res D := runDef 1 1 b_fields_in
/-! width_made -/
abbrev s_width_made : Stmt := top 10
noncomputable def b_width_made : DL.Env → Out := (sSeq (sIf [] (bTest dEq (eOp dIx (eVarS 0) (eC (.int 0))) (eC (.str "rows"))) (sSeq (sSet [] 2 (eComp [3] (.nm 3) (iSeq (eOp dIx (eVarS 0) (eC (.int 1)))) bYes (e1 dLen (eVarS 3)))) (sSeq (sIf [] (bNot (bTruth (eCall F_all_alike (aCons (eVarS 2) aNil)))) (sSeq (sRet [] (eC .non)) sSkip) sSkip) (sSeq (sRet [] (eOp dIx (eVarS 2) (eC (.int 0)))) sSkip))) sSkip) (sSeq (sSet [] 2 (eComp [4] (.nm 4) (iSeq (eOp dIx (eVarS 0) (eC (.int 1)))) bYes (e1 dLen (eOp dIx (eVarS 4) (eC (.int 1)))))) (sSeq (sIf [] (bNot (bTruth (eCall F_all_alike (aCons (eVarS 2) aNil)))) (sSeq (sRet [] (eC .non)) sSkip) sSkip) (sSeq (sIf [] (bTest dGt (e1 dLen (eVarS 2)) (eC (.int 0))) (sSeq (sSet [] 1 (eOp dAdd (eVarS 1) (eOp dIx (eVarS 2) (eC (.int 0))))) sSkip) sSkip) (sSeq (sIf [] (bTest dGt (eVarS 1) (eC (.int 4))) (sSeq (sRet [] (eC .non)) sSkip) sSkip) (sSeq (sRet [] (eVarS 1)) sSkip))))))
noncomputable def F_width_made : List D → Res D := runDef 2 5 b_width_made
/-! width_of -/
abbrev s_width_of : Stmt := top 11
noncomputable def b_width_of_1 (G : List D → Res D) : DL.Env → Out := (sSeq (sSet [] 5 (eCall F_fields_in (aCons (eVarS 4) aNil))) (sSeq (sIf [] (bAnd (bTest dGt (e1 dLen (eVarS 5)) (eC (.int 0))) (bTest dGe (eOp dIx (eVarS 5) (eNeg (eC (.int 1)))) (eOp dIx (eVarS 2) (eC (.int 0))))) (sSeq (sRet [] (eC .non)) sSkip) sSkip) sSkip))
noncomputable def b_width_of (G : List D → Res D) : DL.Env → Out := (sSeq (sIf [] (bTest dEq (eOp dIx (eVarS 0) (eC (.int 0))) (eC (.str "all"))) (sSeq (sRet [] (eVarS 1)) sSkip) sSkip) (sSeq (sSet [] 2 (eComp [3] (.nm 3) (iSeq (eCall F_inner_views (aCons (eVarS 0) aNil))) bYes (eCall G (aCons (eVarS 3) (aCons (eVarS 1) aNil))))) (sSeq (sIf [] (bOr (bTest (dInA false) (eC .non) (eVarS 2)) (bNot (bTruth (eCall F_all_alike (aCons (eVarS 2) aNil))))) (sSeq (sRet [] (eC .non)) sSkip) sSkip) (sSeq (sFor [] (.nm 4) (iSeq (eCall F_own_terms (aCons (eVarS 0) aNil))) (b_width_of_1 G)) (sSeq (sIf [] (bOr (bTest dEq (eOp dIx (eVarS 0) (eC (.int 0))) (eC (.str "rows"))) (bTest dEq (eOp dIx (eVarS 0) (eC (.int 0))) (eC (.str "match")))) (sSeq (sRet [] (eCall F_width_made (aCons (eVarS 0) (aCons (eOp dIx (eVarS 2) (eC (.int 0))) aNil)))) sSkip) sSkip) (sSeq (sRet [] (eOp dIx (eVarS 2) (eC (.int 0)))) sSkip))))))
noncomputable def R_width_of : Nat → List D → Res D
  | 0 => fun _ => .bad
  | j + 1 => runDef 2 6 (b_width_of (R_width_of j))
noncomputable def F_width_of : List D → Res D := R_width_of 12
/-! _law_whole -/
abbrev s_l_whole : Stmt := top 27
noncomputable def b_l_whole : DL.Env → Out := (sSeq (sRet [] (eAnd (e1 isInt (eVarS 0)) (eNot (e1 isBool (eVarS 0))))) sSkip)
noncomputable def F_l_whole : List D → Res D := runDef 1 1 b_l_whole
/-! view_depth -/
abbrev s_view_depth : Stmt := top 12
noncomputable def b_view_depth (G : List D → Res D) : DL.Env → Out := (sSeq (sRet [] (eOp dAdd (eC (.int 1)) (e1 (dMaxDef 0) (eComp [1] (.nm 1) (iSeq (eCall F_inner_views (aCons (eVarS 0) aNil))) bYes (eCall G (aCons (eVarS 1) aNil)))))) sSkip)
noncomputable def R_view_depth : Nat → List D → Res D
  | 0 => fun _ => .bad
  | j + 1 => runDef 1 2 (b_view_depth (R_view_depth j))
noncomputable def F_view_depth : List D → Res D := R_view_depth 12
/-! _law_terms -/
abbrev s_l_terms : Stmt := top 26
noncomputable def b_l_terms_1 (G : List D → Res D) : DL.Env → Out := (sSeq (sSet [] 1 (eOp dAdd (eVarS 1) (e1 dList (eVarS 2)))) sSkip)
noncomputable def b_l_terms (G : List D → Res D) : DL.Env → Out := (sSeq (sIf [] (bTest dEq (eOp dIx (eVarS 0) (eC (.int 0))) (eC (.str "all"))) (sSeq (sRet [] (eLst aNil)) sSkip) sSkip) (sSeq (sIf [] (bTest dEq (eOp dIx (eVarS 0) (eC (.int 0))) (eC (.str "both"))) (sSeq (sRet [] (eOp dAdd (eCall G (aCons (eOp dIx (eVarS 0) (eC (.int 1))) aNil)) (eCall G (aCons (eOp dIx (eVarS 0) (eC (.int 2))) aNil)))) sSkip) sSkip) (sSeq (sSet [] 1 (eLst aNil)) (sSeq (sIf [] (bOr (bTest dEq (eOp dIx (eVarS 0) (eC (.int 0))) (eC (.str "keep"))) (bTest dEq (eOp dIx (eVarS 0) (eC (.int 0))) (eC (.str "cap")))) (sSeq (sSet [] 1 (eLst (aCons (eOp dIx (eVarS 0) (eC (.int 1))) aNil))) sSkip) sSkip) (sSeq (sIf [] (bTest dEq (eOp dIx (eVarS 0) (eC (.int 0))) (eC (.str "match"))) (sSeq (sSet [] 1 (eLst (aCons (eOp dIx (eVarS 0) (eC (.int 2))) aNil))) sSkip) sSkip) (sSeq (sIf [] (bTest dEq (eOp dIx (eVarS 0) (eC (.int 0))) (eC (.str "rows"))) (sSeq (sFor [] (.nm 2) (iSeq (eOp dIx (eVarS 0) (eC (.int 1)))) (b_l_terms_1 G)) sSkip) sSkip) (sSeq (sRet [] (eOp dAdd (eVarS 1) (eCall G (aCons (eOp dIx (eVarS 0) (eNeg (eC (.int 1)))) aNil)))) sSkip)))))))
noncomputable def R_l_terms : Nat → List D → Res D
  | 0 => fun _ => .bad
  | j + 1 => runDef 1 3 (b_l_terms (R_l_terms j))
noncomputable def F_l_terms : List D → Res D := R_l_terms 12
/-! names_in -/
abbrev s_names_in : Stmt := top 3
noncomputable def b_names_in : DL.Env → Out := (sSeq (sRet [] (e1 dSortSet (eCall F_gathered (aCons (eVarS 0) (aCons (eC (.str "name")) aNil))))) sSkip)
noncomputable def F_names_in : List D → Res D := runDef 1 1 b_names_in
/-! view_names -/
abbrev s_view_names : Stmt := top 13
noncomputable def b_view_names_2 (G : List D → Res D) : DL.Env → Out := (sSeq (sPutD [] 1 (eVarS 3) (eC (.bl true))) sSkip)
noncomputable def b_view_names_1 (G : List D → Res D) : DL.Env → Out := (sSeq (sFor [] (.nm 3) (iSeq (eCall F_names_in (aCons (eVarS 2) aNil))) (b_view_names_2 G)) sSkip)
noncomputable def b_view_names_4 (G : List D → Res D) : DL.Env → Out := (sSeq (sPutD [] 1 (eVarS 3) (eC (.bl true))) sSkip)
noncomputable def b_view_names_3 (G : List D → Res D) : DL.Env → Out := (sSeq (sFor [] (.nm 3) (iSeq (eCall G (aCons (eVarS 4) aNil))) (b_view_names_4 G)) sSkip)
noncomputable def b_view_names (G : List D → Res D) : DL.Env → Out := (sSeq (sSetF [] 1 (eDNew false)) (sSeq (sFor [] (.nm 2) (iSeq (eCall F_own_terms (aCons (eVarS 0) aNil))) (b_view_names_1 G)) (sSeq (sFor [] (.nm 4) (iSeq (eCall F_inner_views (aCons (eVarS 0) aNil))) (b_view_names_3 G)) (sSeq (sRet [] (e1 dSorted (eVar 1))) sSkip))))
noncomputable def R_view_names : Nat → List D → Res D
  | 0 => fun _ => .bad
  | j + 1 => runDef 1 5 (b_view_names (R_view_names j))
noncomputable def F_view_names : List D → Res D := R_view_names 12
/-! _law_told -/
abbrev s_l_told : Stmt := top 29
noncomputable def b_l_told_2 : DL.Env → Out := (sSeq (sPutD [] 4 (eVarS 6) (eC (.bl true))) sSkip)
noncomputable def b_l_told_1 : DL.Env → Out := (sSeq (sFor [] (.nm 6) (iSeq (eCall F_names_in (aCons (eVarS 5) aNil))) b_l_told_2) sSkip)
noncomputable def b_l_told : DL.Env → Out := (sSeq (sSet [] 3 (eCall F_width_of (aCons (eOp dIx (eVarS 0) (eC (.int 0))) (aCons (eOp dIx (eVarS 0) (eC (.int 1))) aNil)))) (sSeq (sIf [] (bOr (bAnd (bTest dIs (eVarS 1) (eC .non)) (bTest dIsNot (eVarS 3) (eC .non))) (bAnd (bTest dIsNot (eVarS 1) (eC .non)) (bOr (bNot (bTruth (eCall F_l_whole (aCons (eVarS 3) aNil)))) (bTest dNe (eVarS 3) (eVarS 1))))) (sSeq (sRet [] (eC (.bl false))) sSkip) sSkip) (sSeq (sIf [] (bOr (bNot (bTruth (eCall F_l_whole (aCons (eCall F_view_depth (aCons (eOp dIx (eVarS 0) (eC (.int 0))) aNil)) aNil)))) (bTest dNe (eCall F_view_depth (aCons (eOp dIx (eVarS 0) (eC (.int 0))) aNil)) (eVarS 2))) (sSeq (sRet [] (eC (.bl false))) sSkip) sSkip) (sSeq (sSetF [] 4 (eDNew false)) (sSeq (sFor [] (.nm 5) (iSeq (eCall F_l_terms (aCons (eOp dIx (eVarS 0) (eC (.int 0))) aNil))) b_l_told_1) (sSeq (sSet [] 3 (eCall F_view_names (aCons (eOp dIx (eVarS 0) (eC (.int 0))) aNil))) (sSeq (sRet [] (eAnd (e1 isList (eVarS 3)) (eOp dEq (eVarS 3) (e1 dSorted (eVar 4))))) sSkip)))))))
noncomputable def F_l_told : List D → Res D := runDef 3 7 b_l_told
/-! _law_bad -/
abbrev s_l_bad : Stmt := top 28
noncomputable def b_l_bad : DL.Env → Out := (sSeq (sSet [] 3 (eTup (aCons (eC (.str "field")) (aCons (eOp dAdd (eVarS 1) (eOp dMod (eOp dDiv (eVarS 2) (eC (.int 8))) (eC (.int 3)))) aNil)))) (sSeq (sSetF [] 4 (eLst (aCons (eTup (aCons (eC (.str "keep")) (aCons (eTup (aCons (eC (.str "both")) (aCons (eTup (aCons (eC (.str "num")) (aCons (eC (.int 1)) aNil))) (aCons (eVarS 3) aNil)))) (aCons (eVarS 0) aNil)))) (aCons (eTup (aCons (eC (.str "cap")) (aCons (eVarS 3) (aCons (eC (.int 2)) (aCons (eVarS 0) aNil))))) (aCons (eTup (aCons (eC (.str "match")) (aCons (eTup aNil) (aCons (eVarS 3) (aCons (eVarS 0) aNil))))) aNil))))) (sSeq (sMut [] 4 gAppend (aCons (eTup (aCons (eC (.str "rows")) (aCons (eTup (aCons (eTup (aCons (eTup (aCons (eC (.str "num")) (aCons (eC (.int 0)) aNil))) aNil)) (aCons (eTup (aCons (eTup (aCons (eC (.str "not")) (aCons (eVarS 3) aNil))) aNil)) aNil))) (aCons (eVarS 0) aNil)))) aNil)) (sSeq (sMut [] 4 gAppend (aCons (eTup (aCons (eC (.str "rows")) (aCons (eTup (aCons (eTup (aCons (eTup (aCons (eC (.str "num")) (aCons (eC (.int 0)) aNil))) aNil)) (aCons (eTup (aCons (eTup (aCons (eC (.str "num")) (aCons (eC (.int 1)) aNil))) (aCons (eTup (aCons (eC (.str "num")) (aCons (eC (.int 2)) aNil))) aNil))) aNil))) (aCons (eVarS 0) aNil)))) aNil)) (sSeq (sMut [] 4 gAppend (aCons (eTup (aCons (eC (.str "match")) (aCons (eTup (aCons (eTup (aCons (eC (.int 0)) (aCons (eTup (aCons (eC (.int 1)) aNil)) aNil))) (aCons (eTup (aCons (eC (.int 0)) (aCons (eTup (aCons (eC (.int 1)) (aCons (eC (.int 2)) aNil))) aNil))) (aCons (eTup (aCons (eC (.int 3)) (aCons (eTup (aCons (eC (.int 4)) aNil)) aNil))) aNil)))) (aCons (eTup (aCons (eC (.str "num")) (aCons (eC (.int 0)) aNil))) (aCons (eVarS 0) aNil))))) aNil)) (sSeq (sMut [] 4 gAppend (aCons (eTup (aCons (eC (.str "match")) (aCons (eTup (aCons (eTup (aCons (eC (.int 0)) (aCons (eOp dRepT (eTup (aCons (eC (.int 1)) aNil)) (eOp dSub (eC (.int 5)) (eVarS 1))) aNil))) aNil)) (aCons (eTup (aCons (eC (.str "num")) (aCons (eC (.int 0)) aNil))) (aCons (eVarS 0) aNil))))) aNil)) (sSeq (sMut [] 4 gAppend (aCons (eTup (aCons (eC (.str "both")) (aCons (eVarS 0) (aCons (eTup (aCons (eC (.str "rows")) (aCons (eTup (aCons (eOp dRepT (eTup (aCons (eTup (aCons (eC (.str "num")) (aCons (eC (.int 0)) aNil))) aNil)) (eOp dAdd (eC (.int 1)) (eOp dMod (eVarS 1) (eC (.int 4))))) aNil)) (aCons (eVarS 0) aNil)))) aNil)))) aNil)) (sSeq (sRet [] (eOp dIxA (eVar 4) (eOp dMod (eVarS 2) (eC (.int 8))))) sSkip))))))))
noncomputable def F_l_bad : List D → Res D := runDef 3 5 b_l_bad
/-! law -/
abbrev s_law : Stmt := top 30
noncomputable def b_law_2 : DL.Env → Out := (sSeq (sIf [] (bNot (bTruth (eCall F_l_told (aCons (eTup (aCons (eVarS 3) (aCons (eVarS 1) aNil))) (aCons (eVarS 4) (aCons (eVarS 7) aNil)))))) (sSeq (sRet [] (eC (.bl false))) sSkip) sSkip) (sSeq (sSet [] 8 (eCall F_l_mix (aCons (eOp dAdd (eCall F_l_cell_at (aCons (eVarS 0) (aCons (eVarS 2) aNil))) (eVarS 7)) (aCons (eC (.int 390)) aNil)))) (sSeq (sSet [] 9 (eCall F_l_bad (aCons (eVarS 3) (aCons (eVarS 4) (aCons (eVarS 8) aNil))))) (sSeq (sSet [] 10 (eOp dAdd (eOp dAdd (eVarS 7) (eC (.int 1))) (e1 dInt (eOp dEq (eOp dIx (eVarS 9) (eC (.int 0))) (eC (.str "both")))))) (sSeq (sIf [] (bTest dGt (eVarS 10) (eC (.int 5))) (sSeq sCont sSkip) sSkip) (sSeq (sIf [] (bNot (bTruth (eCall F_l_told (aCons (eTup (aCons (eVarS 9) (aCons (eVarS 1) aNil))) (aCons (eC .non) (aCons (eVarS 10) aNil)))))) (sSeq (sRet [] (eC (.bl false))) sSkip) sSkip) (sSeq (sIf [] (bNot (bTruth (eCall F_l_told (aCons (eTup (aCons (eTup (aCons (eC (.str "unlike")) (aCons (eVarS 9) aNil))) (aCons (eVarS 1) aNil))) (aCons (eC .non) (aCons (eOp dAdd (eVarS 10) (eC (.int 1))) aNil)))))) (sSeq (sRet [] (eC (.bl false))) sSkip) sSkip) sSkip)))))))
noncomputable def b_law_1 : DL.Env → Out := (sSeq (sFor [] (.tp [(.nm 3), (.nm 4), (.nm 5), (.nm 6), (.nm 7)]) (iSeq (eCall F_l_views (aCons (eCut (eVarS 0) (oSome (eVarS 2)) (oSome (eOp dAdd (eVarS 2) (eC (.int 3))))) (aCons (eVarS 1) aNil)))) b_law_2) sSkip)
noncomputable def b_law : DL.Env → Out := (sSeq (sSet [] 1 (eOp dAdd (eC (.int 1)) (eOp dMod (eCall F_l_cell_at (aCons (eVarS 0) (aCons (eC (.int 0)) aNil))) (eC (.int 4))))) (sSeq (sFor [] (.nm 2) (iRange3 (eC (.int 0)) (eOp dMax (eC (.int 1)) (e1 dLen (eVarS 0))) (eC (.int 3))) b_law_1) (sSeq (sRet [] (eC (.bl true))) sSkip)))
noncomputable def F_law : List D → Res D := runDef 1 11 b_law
@[simp] theorem strok_0 : PyData.strOk "field" = true := by decide +kernel
@[simp] theorem strok_1 : PyData.strOk "num" = true := by decide +kernel
@[simp] theorem strok_2 : PyData.strOk "name" = true := by decide +kernel
@[simp] theorem strok_3 : PyData.strOk "a" = true := by decide +kernel
@[simp] theorem strok_4 : PyData.strOk "b" = true := by decide +kernel
@[simp] theorem strok_5 : PyData.strOk "c" = true := by decide +kernel
@[simp] theorem strok_6 : PyData.strOk "add" = true := by decide +kernel
@[simp] theorem strok_7 : PyData.strOk "sub" = true := by decide +kernel
@[simp] theorem strok_8 : PyData.strOk "mul" = true := by decide +kernel
@[simp] theorem strok_9 : PyData.strOk "quo" = true := by decide +kernel
@[simp] theorem strok_10 : PyData.strOk "less" = true := by decide +kernel
@[simp] theorem strok_11 : PyData.strOk "same" = true := by decide +kernel
@[simp] theorem strok_12 : PyData.strOk "both" = true := by decide +kernel
@[simp] theorem strok_13 : PyData.strOk "any" = true := by decide +kernel
@[simp] theorem strok_14 : PyData.strOk "not" = true := by decide +kernel
@[simp] theorem strok_15 : PyData.strOk "pick" = true := by decide +kernel
@[simp] theorem strok_16 : PyData.strOk "match" = true := by decide +kernel
@[simp] theorem strok_17 : PyData.strOk "keep" = true := by decide +kernel
@[simp] theorem strok_18 : PyData.strOk "rows" = true := by decide +kernel
@[simp] theorem strok_19 : PyData.strOk "unlike" = true := by decide +kernel
@[simp] theorem strok_20 : PyData.strOk "cap" = true := by decide +kernel
@[simp] theorem strok_21 : PyData.strOk "all" = true := by decide +kernel
@[simp] theorem str_0_1 : (Str.ofString "field" = Str.ofString "num") = False := eq_false (by decide +kernel)
@[simp] theorem str_0_2 : (Str.ofString "field" = Str.ofString "name") = False := eq_false (by decide +kernel)
@[simp] theorem str_0_3 : (Str.ofString "field" = Str.ofString "a") = False := eq_false (by decide +kernel)
@[simp] theorem str_0_4 : (Str.ofString "field" = Str.ofString "b") = False := eq_false (by decide +kernel)
@[simp] theorem str_0_5 : (Str.ofString "field" = Str.ofString "c") = False := eq_false (by decide +kernel)
@[simp] theorem str_0_6 : (Str.ofString "field" = Str.ofString "add") = False := eq_false (by decide +kernel)
@[simp] theorem str_0_7 : (Str.ofString "field" = Str.ofString "sub") = False := eq_false (by decide +kernel)
@[simp] theorem str_0_8 : (Str.ofString "field" = Str.ofString "mul") = False := eq_false (by decide +kernel)
@[simp] theorem str_0_9 : (Str.ofString "field" = Str.ofString "quo") = False := eq_false (by decide +kernel)
@[simp] theorem str_0_10 : (Str.ofString "field" = Str.ofString "less") = False := eq_false (by decide +kernel)
@[simp] theorem str_0_11 : (Str.ofString "field" = Str.ofString "same") = False := eq_false (by decide +kernel)
@[simp] theorem str_0_12 : (Str.ofString "field" = Str.ofString "both") = False := eq_false (by decide +kernel)
@[simp] theorem str_0_13 : (Str.ofString "field" = Str.ofString "any") = False := eq_false (by decide +kernel)
@[simp] theorem str_0_14 : (Str.ofString "field" = Str.ofString "not") = False := eq_false (by decide +kernel)
@[simp] theorem str_0_15 : (Str.ofString "field" = Str.ofString "pick") = False := eq_false (by decide +kernel)
@[simp] theorem str_0_16 : (Str.ofString "field" = Str.ofString "match") = False := eq_false (by decide +kernel)
@[simp] theorem str_0_17 : (Str.ofString "field" = Str.ofString "keep") = False := eq_false (by decide +kernel)
@[simp] theorem str_0_18 : (Str.ofString "field" = Str.ofString "rows") = False := eq_false (by decide +kernel)
@[simp] theorem str_0_19 : (Str.ofString "field" = Str.ofString "unlike") = False := eq_false (by decide +kernel)
@[simp] theorem str_0_20 : (Str.ofString "field" = Str.ofString "cap") = False := eq_false (by decide +kernel)
@[simp] theorem str_0_21 : (Str.ofString "field" = Str.ofString "all") = False := eq_false (by decide +kernel)
@[simp] theorem str_1_0 : (Str.ofString "num" = Str.ofString "field") = False := eq_false (by decide +kernel)
@[simp] theorem str_1_2 : (Str.ofString "num" = Str.ofString "name") = False := eq_false (by decide +kernel)
@[simp] theorem str_1_3 : (Str.ofString "num" = Str.ofString "a") = False := eq_false (by decide +kernel)
@[simp] theorem str_1_4 : (Str.ofString "num" = Str.ofString "b") = False := eq_false (by decide +kernel)
@[simp] theorem str_1_5 : (Str.ofString "num" = Str.ofString "c") = False := eq_false (by decide +kernel)
@[simp] theorem str_1_6 : (Str.ofString "num" = Str.ofString "add") = False := eq_false (by decide +kernel)
@[simp] theorem str_1_7 : (Str.ofString "num" = Str.ofString "sub") = False := eq_false (by decide +kernel)
@[simp] theorem str_1_8 : (Str.ofString "num" = Str.ofString "mul") = False := eq_false (by decide +kernel)
@[simp] theorem str_1_9 : (Str.ofString "num" = Str.ofString "quo") = False := eq_false (by decide +kernel)
@[simp] theorem str_1_10 : (Str.ofString "num" = Str.ofString "less") = False := eq_false (by decide +kernel)
@[simp] theorem str_1_11 : (Str.ofString "num" = Str.ofString "same") = False := eq_false (by decide +kernel)
@[simp] theorem str_1_12 : (Str.ofString "num" = Str.ofString "both") = False := eq_false (by decide +kernel)
@[simp] theorem str_1_13 : (Str.ofString "num" = Str.ofString "any") = False := eq_false (by decide +kernel)
@[simp] theorem str_1_14 : (Str.ofString "num" = Str.ofString "not") = False := eq_false (by decide +kernel)
@[simp] theorem str_1_15 : (Str.ofString "num" = Str.ofString "pick") = False := eq_false (by decide +kernel)
@[simp] theorem str_1_16 : (Str.ofString "num" = Str.ofString "match") = False := eq_false (by decide +kernel)
@[simp] theorem str_1_17 : (Str.ofString "num" = Str.ofString "keep") = False := eq_false (by decide +kernel)
@[simp] theorem str_1_18 : (Str.ofString "num" = Str.ofString "rows") = False := eq_false (by decide +kernel)
@[simp] theorem str_1_19 : (Str.ofString "num" = Str.ofString "unlike") = False := eq_false (by decide +kernel)
@[simp] theorem str_1_20 : (Str.ofString "num" = Str.ofString "cap") = False := eq_false (by decide +kernel)
@[simp] theorem str_1_21 : (Str.ofString "num" = Str.ofString "all") = False := eq_false (by decide +kernel)
@[simp] theorem str_2_0 : (Str.ofString "name" = Str.ofString "field") = False := eq_false (by decide +kernel)
@[simp] theorem str_2_1 : (Str.ofString "name" = Str.ofString "num") = False := eq_false (by decide +kernel)
@[simp] theorem str_2_3 : (Str.ofString "name" = Str.ofString "a") = False := eq_false (by decide +kernel)
@[simp] theorem str_2_4 : (Str.ofString "name" = Str.ofString "b") = False := eq_false (by decide +kernel)
@[simp] theorem str_2_5 : (Str.ofString "name" = Str.ofString "c") = False := eq_false (by decide +kernel)
@[simp] theorem str_2_6 : (Str.ofString "name" = Str.ofString "add") = False := eq_false (by decide +kernel)
@[simp] theorem str_2_7 : (Str.ofString "name" = Str.ofString "sub") = False := eq_false (by decide +kernel)
@[simp] theorem str_2_8 : (Str.ofString "name" = Str.ofString "mul") = False := eq_false (by decide +kernel)
@[simp] theorem str_2_9 : (Str.ofString "name" = Str.ofString "quo") = False := eq_false (by decide +kernel)
@[simp] theorem str_2_10 : (Str.ofString "name" = Str.ofString "less") = False := eq_false (by decide +kernel)
@[simp] theorem str_2_11 : (Str.ofString "name" = Str.ofString "same") = False := eq_false (by decide +kernel)
@[simp] theorem str_2_12 : (Str.ofString "name" = Str.ofString "both") = False := eq_false (by decide +kernel)
@[simp] theorem str_2_13 : (Str.ofString "name" = Str.ofString "any") = False := eq_false (by decide +kernel)
@[simp] theorem str_2_14 : (Str.ofString "name" = Str.ofString "not") = False := eq_false (by decide +kernel)
@[simp] theorem str_2_15 : (Str.ofString "name" = Str.ofString "pick") = False := eq_false (by decide +kernel)
@[simp] theorem str_2_16 : (Str.ofString "name" = Str.ofString "match") = False := eq_false (by decide +kernel)
@[simp] theorem str_2_17 : (Str.ofString "name" = Str.ofString "keep") = False := eq_false (by decide +kernel)
@[simp] theorem str_2_18 : (Str.ofString "name" = Str.ofString "rows") = False := eq_false (by decide +kernel)
@[simp] theorem str_2_19 : (Str.ofString "name" = Str.ofString "unlike") = False := eq_false (by decide +kernel)
@[simp] theorem str_2_20 : (Str.ofString "name" = Str.ofString "cap") = False := eq_false (by decide +kernel)
@[simp] theorem str_2_21 : (Str.ofString "name" = Str.ofString "all") = False := eq_false (by decide +kernel)
@[simp] theorem str_3_0 : (Str.ofString "a" = Str.ofString "field") = False := eq_false (by decide +kernel)
@[simp] theorem str_3_1 : (Str.ofString "a" = Str.ofString "num") = False := eq_false (by decide +kernel)
@[simp] theorem str_3_2 : (Str.ofString "a" = Str.ofString "name") = False := eq_false (by decide +kernel)
@[simp] theorem str_3_4 : (Str.ofString "a" = Str.ofString "b") = False := eq_false (by decide +kernel)
@[simp] theorem str_3_5 : (Str.ofString "a" = Str.ofString "c") = False := eq_false (by decide +kernel)
@[simp] theorem str_3_6 : (Str.ofString "a" = Str.ofString "add") = False := eq_false (by decide +kernel)
@[simp] theorem str_3_7 : (Str.ofString "a" = Str.ofString "sub") = False := eq_false (by decide +kernel)
@[simp] theorem str_3_8 : (Str.ofString "a" = Str.ofString "mul") = False := eq_false (by decide +kernel)
@[simp] theorem str_3_9 : (Str.ofString "a" = Str.ofString "quo") = False := eq_false (by decide +kernel)
@[simp] theorem str_3_10 : (Str.ofString "a" = Str.ofString "less") = False := eq_false (by decide +kernel)
@[simp] theorem str_3_11 : (Str.ofString "a" = Str.ofString "same") = False := eq_false (by decide +kernel)
@[simp] theorem str_3_12 : (Str.ofString "a" = Str.ofString "both") = False := eq_false (by decide +kernel)
@[simp] theorem str_3_13 : (Str.ofString "a" = Str.ofString "any") = False := eq_false (by decide +kernel)
@[simp] theorem str_3_14 : (Str.ofString "a" = Str.ofString "not") = False := eq_false (by decide +kernel)
@[simp] theorem str_3_15 : (Str.ofString "a" = Str.ofString "pick") = False := eq_false (by decide +kernel)
@[simp] theorem str_3_16 : (Str.ofString "a" = Str.ofString "match") = False := eq_false (by decide +kernel)
@[simp] theorem str_3_17 : (Str.ofString "a" = Str.ofString "keep") = False := eq_false (by decide +kernel)
@[simp] theorem str_3_18 : (Str.ofString "a" = Str.ofString "rows") = False := eq_false (by decide +kernel)
@[simp] theorem str_3_19 : (Str.ofString "a" = Str.ofString "unlike") = False := eq_false (by decide +kernel)
@[simp] theorem str_3_20 : (Str.ofString "a" = Str.ofString "cap") = False := eq_false (by decide +kernel)
@[simp] theorem str_3_21 : (Str.ofString "a" = Str.ofString "all") = False := eq_false (by decide +kernel)
@[simp] theorem str_4_0 : (Str.ofString "b" = Str.ofString "field") = False := eq_false (by decide +kernel)
@[simp] theorem str_4_1 : (Str.ofString "b" = Str.ofString "num") = False := eq_false (by decide +kernel)
@[simp] theorem str_4_2 : (Str.ofString "b" = Str.ofString "name") = False := eq_false (by decide +kernel)
@[simp] theorem str_4_3 : (Str.ofString "b" = Str.ofString "a") = False := eq_false (by decide +kernel)
@[simp] theorem str_4_5 : (Str.ofString "b" = Str.ofString "c") = False := eq_false (by decide +kernel)
@[simp] theorem str_4_6 : (Str.ofString "b" = Str.ofString "add") = False := eq_false (by decide +kernel)
@[simp] theorem str_4_7 : (Str.ofString "b" = Str.ofString "sub") = False := eq_false (by decide +kernel)
@[simp] theorem str_4_8 : (Str.ofString "b" = Str.ofString "mul") = False := eq_false (by decide +kernel)
@[simp] theorem str_4_9 : (Str.ofString "b" = Str.ofString "quo") = False := eq_false (by decide +kernel)
@[simp] theorem str_4_10 : (Str.ofString "b" = Str.ofString "less") = False := eq_false (by decide +kernel)
@[simp] theorem str_4_11 : (Str.ofString "b" = Str.ofString "same") = False := eq_false (by decide +kernel)
@[simp] theorem str_4_12 : (Str.ofString "b" = Str.ofString "both") = False := eq_false (by decide +kernel)
@[simp] theorem str_4_13 : (Str.ofString "b" = Str.ofString "any") = False := eq_false (by decide +kernel)
@[simp] theorem str_4_14 : (Str.ofString "b" = Str.ofString "not") = False := eq_false (by decide +kernel)
@[simp] theorem str_4_15 : (Str.ofString "b" = Str.ofString "pick") = False := eq_false (by decide +kernel)
@[simp] theorem str_4_16 : (Str.ofString "b" = Str.ofString "match") = False := eq_false (by decide +kernel)
@[simp] theorem str_4_17 : (Str.ofString "b" = Str.ofString "keep") = False := eq_false (by decide +kernel)
@[simp] theorem str_4_18 : (Str.ofString "b" = Str.ofString "rows") = False := eq_false (by decide +kernel)
@[simp] theorem str_4_19 : (Str.ofString "b" = Str.ofString "unlike") = False := eq_false (by decide +kernel)
@[simp] theorem str_4_20 : (Str.ofString "b" = Str.ofString "cap") = False := eq_false (by decide +kernel)
@[simp] theorem str_4_21 : (Str.ofString "b" = Str.ofString "all") = False := eq_false (by decide +kernel)
@[simp] theorem str_5_0 : (Str.ofString "c" = Str.ofString "field") = False := eq_false (by decide +kernel)
@[simp] theorem str_5_1 : (Str.ofString "c" = Str.ofString "num") = False := eq_false (by decide +kernel)
@[simp] theorem str_5_2 : (Str.ofString "c" = Str.ofString "name") = False := eq_false (by decide +kernel)
@[simp] theorem str_5_3 : (Str.ofString "c" = Str.ofString "a") = False := eq_false (by decide +kernel)
@[simp] theorem str_5_4 : (Str.ofString "c" = Str.ofString "b") = False := eq_false (by decide +kernel)
@[simp] theorem str_5_6 : (Str.ofString "c" = Str.ofString "add") = False := eq_false (by decide +kernel)
@[simp] theorem str_5_7 : (Str.ofString "c" = Str.ofString "sub") = False := eq_false (by decide +kernel)
@[simp] theorem str_5_8 : (Str.ofString "c" = Str.ofString "mul") = False := eq_false (by decide +kernel)
@[simp] theorem str_5_9 : (Str.ofString "c" = Str.ofString "quo") = False := eq_false (by decide +kernel)
@[simp] theorem str_5_10 : (Str.ofString "c" = Str.ofString "less") = False := eq_false (by decide +kernel)
@[simp] theorem str_5_11 : (Str.ofString "c" = Str.ofString "same") = False := eq_false (by decide +kernel)
@[simp] theorem str_5_12 : (Str.ofString "c" = Str.ofString "both") = False := eq_false (by decide +kernel)
@[simp] theorem str_5_13 : (Str.ofString "c" = Str.ofString "any") = False := eq_false (by decide +kernel)
@[simp] theorem str_5_14 : (Str.ofString "c" = Str.ofString "not") = False := eq_false (by decide +kernel)
@[simp] theorem str_5_15 : (Str.ofString "c" = Str.ofString "pick") = False := eq_false (by decide +kernel)
@[simp] theorem str_5_16 : (Str.ofString "c" = Str.ofString "match") = False := eq_false (by decide +kernel)
@[simp] theorem str_5_17 : (Str.ofString "c" = Str.ofString "keep") = False := eq_false (by decide +kernel)
@[simp] theorem str_5_18 : (Str.ofString "c" = Str.ofString "rows") = False := eq_false (by decide +kernel)
@[simp] theorem str_5_19 : (Str.ofString "c" = Str.ofString "unlike") = False := eq_false (by decide +kernel)
@[simp] theorem str_5_20 : (Str.ofString "c" = Str.ofString "cap") = False := eq_false (by decide +kernel)
@[simp] theorem str_5_21 : (Str.ofString "c" = Str.ofString "all") = False := eq_false (by decide +kernel)
@[simp] theorem str_6_0 : (Str.ofString "add" = Str.ofString "field") = False := eq_false (by decide +kernel)
@[simp] theorem str_6_1 : (Str.ofString "add" = Str.ofString "num") = False := eq_false (by decide +kernel)
@[simp] theorem str_6_2 : (Str.ofString "add" = Str.ofString "name") = False := eq_false (by decide +kernel)
@[simp] theorem str_6_3 : (Str.ofString "add" = Str.ofString "a") = False := eq_false (by decide +kernel)
@[simp] theorem str_6_4 : (Str.ofString "add" = Str.ofString "b") = False := eq_false (by decide +kernel)
@[simp] theorem str_6_5 : (Str.ofString "add" = Str.ofString "c") = False := eq_false (by decide +kernel)
@[simp] theorem str_6_7 : (Str.ofString "add" = Str.ofString "sub") = False := eq_false (by decide +kernel)
@[simp] theorem str_6_8 : (Str.ofString "add" = Str.ofString "mul") = False := eq_false (by decide +kernel)
@[simp] theorem str_6_9 : (Str.ofString "add" = Str.ofString "quo") = False := eq_false (by decide +kernel)
@[simp] theorem str_6_10 : (Str.ofString "add" = Str.ofString "less") = False := eq_false (by decide +kernel)
@[simp] theorem str_6_11 : (Str.ofString "add" = Str.ofString "same") = False := eq_false (by decide +kernel)
@[simp] theorem str_6_12 : (Str.ofString "add" = Str.ofString "both") = False := eq_false (by decide +kernel)
@[simp] theorem str_6_13 : (Str.ofString "add" = Str.ofString "any") = False := eq_false (by decide +kernel)
@[simp] theorem str_6_14 : (Str.ofString "add" = Str.ofString "not") = False := eq_false (by decide +kernel)
@[simp] theorem str_6_15 : (Str.ofString "add" = Str.ofString "pick") = False := eq_false (by decide +kernel)
@[simp] theorem str_6_16 : (Str.ofString "add" = Str.ofString "match") = False := eq_false (by decide +kernel)
@[simp] theorem str_6_17 : (Str.ofString "add" = Str.ofString "keep") = False := eq_false (by decide +kernel)
@[simp] theorem str_6_18 : (Str.ofString "add" = Str.ofString "rows") = False := eq_false (by decide +kernel)
@[simp] theorem str_6_19 : (Str.ofString "add" = Str.ofString "unlike") = False := eq_false (by decide +kernel)
@[simp] theorem str_6_20 : (Str.ofString "add" = Str.ofString "cap") = False := eq_false (by decide +kernel)
@[simp] theorem str_6_21 : (Str.ofString "add" = Str.ofString "all") = False := eq_false (by decide +kernel)
@[simp] theorem str_7_0 : (Str.ofString "sub" = Str.ofString "field") = False := eq_false (by decide +kernel)
@[simp] theorem str_7_1 : (Str.ofString "sub" = Str.ofString "num") = False := eq_false (by decide +kernel)
@[simp] theorem str_7_2 : (Str.ofString "sub" = Str.ofString "name") = False := eq_false (by decide +kernel)
@[simp] theorem str_7_3 : (Str.ofString "sub" = Str.ofString "a") = False := eq_false (by decide +kernel)
@[simp] theorem str_7_4 : (Str.ofString "sub" = Str.ofString "b") = False := eq_false (by decide +kernel)
@[simp] theorem str_7_5 : (Str.ofString "sub" = Str.ofString "c") = False := eq_false (by decide +kernel)
@[simp] theorem str_7_6 : (Str.ofString "sub" = Str.ofString "add") = False := eq_false (by decide +kernel)
@[simp] theorem str_7_8 : (Str.ofString "sub" = Str.ofString "mul") = False := eq_false (by decide +kernel)
@[simp] theorem str_7_9 : (Str.ofString "sub" = Str.ofString "quo") = False := eq_false (by decide +kernel)
@[simp] theorem str_7_10 : (Str.ofString "sub" = Str.ofString "less") = False := eq_false (by decide +kernel)
@[simp] theorem str_7_11 : (Str.ofString "sub" = Str.ofString "same") = False := eq_false (by decide +kernel)
@[simp] theorem str_7_12 : (Str.ofString "sub" = Str.ofString "both") = False := eq_false (by decide +kernel)
@[simp] theorem str_7_13 : (Str.ofString "sub" = Str.ofString "any") = False := eq_false (by decide +kernel)
@[simp] theorem str_7_14 : (Str.ofString "sub" = Str.ofString "not") = False := eq_false (by decide +kernel)
@[simp] theorem str_7_15 : (Str.ofString "sub" = Str.ofString "pick") = False := eq_false (by decide +kernel)
@[simp] theorem str_7_16 : (Str.ofString "sub" = Str.ofString "match") = False := eq_false (by decide +kernel)
@[simp] theorem str_7_17 : (Str.ofString "sub" = Str.ofString "keep") = False := eq_false (by decide +kernel)
@[simp] theorem str_7_18 : (Str.ofString "sub" = Str.ofString "rows") = False := eq_false (by decide +kernel)
@[simp] theorem str_7_19 : (Str.ofString "sub" = Str.ofString "unlike") = False := eq_false (by decide +kernel)
@[simp] theorem str_7_20 : (Str.ofString "sub" = Str.ofString "cap") = False := eq_false (by decide +kernel)
@[simp] theorem str_7_21 : (Str.ofString "sub" = Str.ofString "all") = False := eq_false (by decide +kernel)
@[simp] theorem str_8_0 : (Str.ofString "mul" = Str.ofString "field") = False := eq_false (by decide +kernel)
@[simp] theorem str_8_1 : (Str.ofString "mul" = Str.ofString "num") = False := eq_false (by decide +kernel)
@[simp] theorem str_8_2 : (Str.ofString "mul" = Str.ofString "name") = False := eq_false (by decide +kernel)
@[simp] theorem str_8_3 : (Str.ofString "mul" = Str.ofString "a") = False := eq_false (by decide +kernel)
@[simp] theorem str_8_4 : (Str.ofString "mul" = Str.ofString "b") = False := eq_false (by decide +kernel)
@[simp] theorem str_8_5 : (Str.ofString "mul" = Str.ofString "c") = False := eq_false (by decide +kernel)
@[simp] theorem str_8_6 : (Str.ofString "mul" = Str.ofString "add") = False := eq_false (by decide +kernel)
@[simp] theorem str_8_7 : (Str.ofString "mul" = Str.ofString "sub") = False := eq_false (by decide +kernel)
@[simp] theorem str_8_9 : (Str.ofString "mul" = Str.ofString "quo") = False := eq_false (by decide +kernel)
@[simp] theorem str_8_10 : (Str.ofString "mul" = Str.ofString "less") = False := eq_false (by decide +kernel)
@[simp] theorem str_8_11 : (Str.ofString "mul" = Str.ofString "same") = False := eq_false (by decide +kernel)
@[simp] theorem str_8_12 : (Str.ofString "mul" = Str.ofString "both") = False := eq_false (by decide +kernel)
@[simp] theorem str_8_13 : (Str.ofString "mul" = Str.ofString "any") = False := eq_false (by decide +kernel)
@[simp] theorem str_8_14 : (Str.ofString "mul" = Str.ofString "not") = False := eq_false (by decide +kernel)
@[simp] theorem str_8_15 : (Str.ofString "mul" = Str.ofString "pick") = False := eq_false (by decide +kernel)
@[simp] theorem str_8_16 : (Str.ofString "mul" = Str.ofString "match") = False := eq_false (by decide +kernel)
@[simp] theorem str_8_17 : (Str.ofString "mul" = Str.ofString "keep") = False := eq_false (by decide +kernel)
@[simp] theorem str_8_18 : (Str.ofString "mul" = Str.ofString "rows") = False := eq_false (by decide +kernel)
@[simp] theorem str_8_19 : (Str.ofString "mul" = Str.ofString "unlike") = False := eq_false (by decide +kernel)
@[simp] theorem str_8_20 : (Str.ofString "mul" = Str.ofString "cap") = False := eq_false (by decide +kernel)
@[simp] theorem str_8_21 : (Str.ofString "mul" = Str.ofString "all") = False := eq_false (by decide +kernel)
@[simp] theorem str_9_0 : (Str.ofString "quo" = Str.ofString "field") = False := eq_false (by decide +kernel)
@[simp] theorem str_9_1 : (Str.ofString "quo" = Str.ofString "num") = False := eq_false (by decide +kernel)
@[simp] theorem str_9_2 : (Str.ofString "quo" = Str.ofString "name") = False := eq_false (by decide +kernel)
@[simp] theorem str_9_3 : (Str.ofString "quo" = Str.ofString "a") = False := eq_false (by decide +kernel)
@[simp] theorem str_9_4 : (Str.ofString "quo" = Str.ofString "b") = False := eq_false (by decide +kernel)
@[simp] theorem str_9_5 : (Str.ofString "quo" = Str.ofString "c") = False := eq_false (by decide +kernel)
@[simp] theorem str_9_6 : (Str.ofString "quo" = Str.ofString "add") = False := eq_false (by decide +kernel)
@[simp] theorem str_9_7 : (Str.ofString "quo" = Str.ofString "sub") = False := eq_false (by decide +kernel)
@[simp] theorem str_9_8 : (Str.ofString "quo" = Str.ofString "mul") = False := eq_false (by decide +kernel)
@[simp] theorem str_9_10 : (Str.ofString "quo" = Str.ofString "less") = False := eq_false (by decide +kernel)
@[simp] theorem str_9_11 : (Str.ofString "quo" = Str.ofString "same") = False := eq_false (by decide +kernel)
@[simp] theorem str_9_12 : (Str.ofString "quo" = Str.ofString "both") = False := eq_false (by decide +kernel)
@[simp] theorem str_9_13 : (Str.ofString "quo" = Str.ofString "any") = False := eq_false (by decide +kernel)
@[simp] theorem str_9_14 : (Str.ofString "quo" = Str.ofString "not") = False := eq_false (by decide +kernel)
@[simp] theorem str_9_15 : (Str.ofString "quo" = Str.ofString "pick") = False := eq_false (by decide +kernel)
@[simp] theorem str_9_16 : (Str.ofString "quo" = Str.ofString "match") = False := eq_false (by decide +kernel)
@[simp] theorem str_9_17 : (Str.ofString "quo" = Str.ofString "keep") = False := eq_false (by decide +kernel)
@[simp] theorem str_9_18 : (Str.ofString "quo" = Str.ofString "rows") = False := eq_false (by decide +kernel)
@[simp] theorem str_9_19 : (Str.ofString "quo" = Str.ofString "unlike") = False := eq_false (by decide +kernel)
@[simp] theorem str_9_20 : (Str.ofString "quo" = Str.ofString "cap") = False := eq_false (by decide +kernel)
@[simp] theorem str_9_21 : (Str.ofString "quo" = Str.ofString "all") = False := eq_false (by decide +kernel)
@[simp] theorem str_10_0 : (Str.ofString "less" = Str.ofString "field") = False := eq_false (by decide +kernel)
@[simp] theorem str_10_1 : (Str.ofString "less" = Str.ofString "num") = False := eq_false (by decide +kernel)
@[simp] theorem str_10_2 : (Str.ofString "less" = Str.ofString "name") = False := eq_false (by decide +kernel)
@[simp] theorem str_10_3 : (Str.ofString "less" = Str.ofString "a") = False := eq_false (by decide +kernel)
@[simp] theorem str_10_4 : (Str.ofString "less" = Str.ofString "b") = False := eq_false (by decide +kernel)
@[simp] theorem str_10_5 : (Str.ofString "less" = Str.ofString "c") = False := eq_false (by decide +kernel)
@[simp] theorem str_10_6 : (Str.ofString "less" = Str.ofString "add") = False := eq_false (by decide +kernel)
@[simp] theorem str_10_7 : (Str.ofString "less" = Str.ofString "sub") = False := eq_false (by decide +kernel)
@[simp] theorem str_10_8 : (Str.ofString "less" = Str.ofString "mul") = False := eq_false (by decide +kernel)
@[simp] theorem str_10_9 : (Str.ofString "less" = Str.ofString "quo") = False := eq_false (by decide +kernel)
@[simp] theorem str_10_11 : (Str.ofString "less" = Str.ofString "same") = False := eq_false (by decide +kernel)
@[simp] theorem str_10_12 : (Str.ofString "less" = Str.ofString "both") = False := eq_false (by decide +kernel)
@[simp] theorem str_10_13 : (Str.ofString "less" = Str.ofString "any") = False := eq_false (by decide +kernel)
@[simp] theorem str_10_14 : (Str.ofString "less" = Str.ofString "not") = False := eq_false (by decide +kernel)
@[simp] theorem str_10_15 : (Str.ofString "less" = Str.ofString "pick") = False := eq_false (by decide +kernel)
@[simp] theorem str_10_16 : (Str.ofString "less" = Str.ofString "match") = False := eq_false (by decide +kernel)
@[simp] theorem str_10_17 : (Str.ofString "less" = Str.ofString "keep") = False := eq_false (by decide +kernel)
@[simp] theorem str_10_18 : (Str.ofString "less" = Str.ofString "rows") = False := eq_false (by decide +kernel)
@[simp] theorem str_10_19 : (Str.ofString "less" = Str.ofString "unlike") = False := eq_false (by decide +kernel)
@[simp] theorem str_10_20 : (Str.ofString "less" = Str.ofString "cap") = False := eq_false (by decide +kernel)
@[simp] theorem str_10_21 : (Str.ofString "less" = Str.ofString "all") = False := eq_false (by decide +kernel)
@[simp] theorem str_11_0 : (Str.ofString "same" = Str.ofString "field") = False := eq_false (by decide +kernel)
@[simp] theorem str_11_1 : (Str.ofString "same" = Str.ofString "num") = False := eq_false (by decide +kernel)
@[simp] theorem str_11_2 : (Str.ofString "same" = Str.ofString "name") = False := eq_false (by decide +kernel)
@[simp] theorem str_11_3 : (Str.ofString "same" = Str.ofString "a") = False := eq_false (by decide +kernel)
@[simp] theorem str_11_4 : (Str.ofString "same" = Str.ofString "b") = False := eq_false (by decide +kernel)
@[simp] theorem str_11_5 : (Str.ofString "same" = Str.ofString "c") = False := eq_false (by decide +kernel)
@[simp] theorem str_11_6 : (Str.ofString "same" = Str.ofString "add") = False := eq_false (by decide +kernel)
@[simp] theorem str_11_7 : (Str.ofString "same" = Str.ofString "sub") = False := eq_false (by decide +kernel)
@[simp] theorem str_11_8 : (Str.ofString "same" = Str.ofString "mul") = False := eq_false (by decide +kernel)
@[simp] theorem str_11_9 : (Str.ofString "same" = Str.ofString "quo") = False := eq_false (by decide +kernel)
@[simp] theorem str_11_10 : (Str.ofString "same" = Str.ofString "less") = False := eq_false (by decide +kernel)
@[simp] theorem str_11_12 : (Str.ofString "same" = Str.ofString "both") = False := eq_false (by decide +kernel)
@[simp] theorem str_11_13 : (Str.ofString "same" = Str.ofString "any") = False := eq_false (by decide +kernel)
@[simp] theorem str_11_14 : (Str.ofString "same" = Str.ofString "not") = False := eq_false (by decide +kernel)
@[simp] theorem str_11_15 : (Str.ofString "same" = Str.ofString "pick") = False := eq_false (by decide +kernel)
@[simp] theorem str_11_16 : (Str.ofString "same" = Str.ofString "match") = False := eq_false (by decide +kernel)
@[simp] theorem str_11_17 : (Str.ofString "same" = Str.ofString "keep") = False := eq_false (by decide +kernel)
@[simp] theorem str_11_18 : (Str.ofString "same" = Str.ofString "rows") = False := eq_false (by decide +kernel)
@[simp] theorem str_11_19 : (Str.ofString "same" = Str.ofString "unlike") = False := eq_false (by decide +kernel)
@[simp] theorem str_11_20 : (Str.ofString "same" = Str.ofString "cap") = False := eq_false (by decide +kernel)
@[simp] theorem str_11_21 : (Str.ofString "same" = Str.ofString "all") = False := eq_false (by decide +kernel)
@[simp] theorem str_12_0 : (Str.ofString "both" = Str.ofString "field") = False := eq_false (by decide +kernel)
@[simp] theorem str_12_1 : (Str.ofString "both" = Str.ofString "num") = False := eq_false (by decide +kernel)
@[simp] theorem str_12_2 : (Str.ofString "both" = Str.ofString "name") = False := eq_false (by decide +kernel)
@[simp] theorem str_12_3 : (Str.ofString "both" = Str.ofString "a") = False := eq_false (by decide +kernel)
@[simp] theorem str_12_4 : (Str.ofString "both" = Str.ofString "b") = False := eq_false (by decide +kernel)
@[simp] theorem str_12_5 : (Str.ofString "both" = Str.ofString "c") = False := eq_false (by decide +kernel)
@[simp] theorem str_12_6 : (Str.ofString "both" = Str.ofString "add") = False := eq_false (by decide +kernel)
@[simp] theorem str_12_7 : (Str.ofString "both" = Str.ofString "sub") = False := eq_false (by decide +kernel)
@[simp] theorem str_12_8 : (Str.ofString "both" = Str.ofString "mul") = False := eq_false (by decide +kernel)
@[simp] theorem str_12_9 : (Str.ofString "both" = Str.ofString "quo") = False := eq_false (by decide +kernel)
@[simp] theorem str_12_10 : (Str.ofString "both" = Str.ofString "less") = False := eq_false (by decide +kernel)
@[simp] theorem str_12_11 : (Str.ofString "both" = Str.ofString "same") = False := eq_false (by decide +kernel)
@[simp] theorem str_12_13 : (Str.ofString "both" = Str.ofString "any") = False := eq_false (by decide +kernel)
@[simp] theorem str_12_14 : (Str.ofString "both" = Str.ofString "not") = False := eq_false (by decide +kernel)
@[simp] theorem str_12_15 : (Str.ofString "both" = Str.ofString "pick") = False := eq_false (by decide +kernel)
@[simp] theorem str_12_16 : (Str.ofString "both" = Str.ofString "match") = False := eq_false (by decide +kernel)
@[simp] theorem str_12_17 : (Str.ofString "both" = Str.ofString "keep") = False := eq_false (by decide +kernel)
@[simp] theorem str_12_18 : (Str.ofString "both" = Str.ofString "rows") = False := eq_false (by decide +kernel)
@[simp] theorem str_12_19 : (Str.ofString "both" = Str.ofString "unlike") = False := eq_false (by decide +kernel)
@[simp] theorem str_12_20 : (Str.ofString "both" = Str.ofString "cap") = False := eq_false (by decide +kernel)
@[simp] theorem str_12_21 : (Str.ofString "both" = Str.ofString "all") = False := eq_false (by decide +kernel)
@[simp] theorem str_13_0 : (Str.ofString "any" = Str.ofString "field") = False := eq_false (by decide +kernel)
@[simp] theorem str_13_1 : (Str.ofString "any" = Str.ofString "num") = False := eq_false (by decide +kernel)
@[simp] theorem str_13_2 : (Str.ofString "any" = Str.ofString "name") = False := eq_false (by decide +kernel)
@[simp] theorem str_13_3 : (Str.ofString "any" = Str.ofString "a") = False := eq_false (by decide +kernel)
@[simp] theorem str_13_4 : (Str.ofString "any" = Str.ofString "b") = False := eq_false (by decide +kernel)
@[simp] theorem str_13_5 : (Str.ofString "any" = Str.ofString "c") = False := eq_false (by decide +kernel)
@[simp] theorem str_13_6 : (Str.ofString "any" = Str.ofString "add") = False := eq_false (by decide +kernel)
@[simp] theorem str_13_7 : (Str.ofString "any" = Str.ofString "sub") = False := eq_false (by decide +kernel)
@[simp] theorem str_13_8 : (Str.ofString "any" = Str.ofString "mul") = False := eq_false (by decide +kernel)
@[simp] theorem str_13_9 : (Str.ofString "any" = Str.ofString "quo") = False := eq_false (by decide +kernel)
@[simp] theorem str_13_10 : (Str.ofString "any" = Str.ofString "less") = False := eq_false (by decide +kernel)
@[simp] theorem str_13_11 : (Str.ofString "any" = Str.ofString "same") = False := eq_false (by decide +kernel)
@[simp] theorem str_13_12 : (Str.ofString "any" = Str.ofString "both") = False := eq_false (by decide +kernel)
@[simp] theorem str_13_14 : (Str.ofString "any" = Str.ofString "not") = False := eq_false (by decide +kernel)
@[simp] theorem str_13_15 : (Str.ofString "any" = Str.ofString "pick") = False := eq_false (by decide +kernel)
@[simp] theorem str_13_16 : (Str.ofString "any" = Str.ofString "match") = False := eq_false (by decide +kernel)
@[simp] theorem str_13_17 : (Str.ofString "any" = Str.ofString "keep") = False := eq_false (by decide +kernel)
@[simp] theorem str_13_18 : (Str.ofString "any" = Str.ofString "rows") = False := eq_false (by decide +kernel)
@[simp] theorem str_13_19 : (Str.ofString "any" = Str.ofString "unlike") = False := eq_false (by decide +kernel)
@[simp] theorem str_13_20 : (Str.ofString "any" = Str.ofString "cap") = False := eq_false (by decide +kernel)
@[simp] theorem str_13_21 : (Str.ofString "any" = Str.ofString "all") = False := eq_false (by decide +kernel)
@[simp] theorem str_14_0 : (Str.ofString "not" = Str.ofString "field") = False := eq_false (by decide +kernel)
@[simp] theorem str_14_1 : (Str.ofString "not" = Str.ofString "num") = False := eq_false (by decide +kernel)
@[simp] theorem str_14_2 : (Str.ofString "not" = Str.ofString "name") = False := eq_false (by decide +kernel)
@[simp] theorem str_14_3 : (Str.ofString "not" = Str.ofString "a") = False := eq_false (by decide +kernel)
@[simp] theorem str_14_4 : (Str.ofString "not" = Str.ofString "b") = False := eq_false (by decide +kernel)
@[simp] theorem str_14_5 : (Str.ofString "not" = Str.ofString "c") = False := eq_false (by decide +kernel)
@[simp] theorem str_14_6 : (Str.ofString "not" = Str.ofString "add") = False := eq_false (by decide +kernel)
@[simp] theorem str_14_7 : (Str.ofString "not" = Str.ofString "sub") = False := eq_false (by decide +kernel)
@[simp] theorem str_14_8 : (Str.ofString "not" = Str.ofString "mul") = False := eq_false (by decide +kernel)
@[simp] theorem str_14_9 : (Str.ofString "not" = Str.ofString "quo") = False := eq_false (by decide +kernel)
@[simp] theorem str_14_10 : (Str.ofString "not" = Str.ofString "less") = False := eq_false (by decide +kernel)
@[simp] theorem str_14_11 : (Str.ofString "not" = Str.ofString "same") = False := eq_false (by decide +kernel)
@[simp] theorem str_14_12 : (Str.ofString "not" = Str.ofString "both") = False := eq_false (by decide +kernel)
@[simp] theorem str_14_13 : (Str.ofString "not" = Str.ofString "any") = False := eq_false (by decide +kernel)
@[simp] theorem str_14_15 : (Str.ofString "not" = Str.ofString "pick") = False := eq_false (by decide +kernel)
@[simp] theorem str_14_16 : (Str.ofString "not" = Str.ofString "match") = False := eq_false (by decide +kernel)
@[simp] theorem str_14_17 : (Str.ofString "not" = Str.ofString "keep") = False := eq_false (by decide +kernel)
@[simp] theorem str_14_18 : (Str.ofString "not" = Str.ofString "rows") = False := eq_false (by decide +kernel)
@[simp] theorem str_14_19 : (Str.ofString "not" = Str.ofString "unlike") = False := eq_false (by decide +kernel)
@[simp] theorem str_14_20 : (Str.ofString "not" = Str.ofString "cap") = False := eq_false (by decide +kernel)
@[simp] theorem str_14_21 : (Str.ofString "not" = Str.ofString "all") = False := eq_false (by decide +kernel)
@[simp] theorem str_15_0 : (Str.ofString "pick" = Str.ofString "field") = False := eq_false (by decide +kernel)
@[simp] theorem str_15_1 : (Str.ofString "pick" = Str.ofString "num") = False := eq_false (by decide +kernel)
@[simp] theorem str_15_2 : (Str.ofString "pick" = Str.ofString "name") = False := eq_false (by decide +kernel)
@[simp] theorem str_15_3 : (Str.ofString "pick" = Str.ofString "a") = False := eq_false (by decide +kernel)
@[simp] theorem str_15_4 : (Str.ofString "pick" = Str.ofString "b") = False := eq_false (by decide +kernel)
@[simp] theorem str_15_5 : (Str.ofString "pick" = Str.ofString "c") = False := eq_false (by decide +kernel)
@[simp] theorem str_15_6 : (Str.ofString "pick" = Str.ofString "add") = False := eq_false (by decide +kernel)
@[simp] theorem str_15_7 : (Str.ofString "pick" = Str.ofString "sub") = False := eq_false (by decide +kernel)
@[simp] theorem str_15_8 : (Str.ofString "pick" = Str.ofString "mul") = False := eq_false (by decide +kernel)
@[simp] theorem str_15_9 : (Str.ofString "pick" = Str.ofString "quo") = False := eq_false (by decide +kernel)
@[simp] theorem str_15_10 : (Str.ofString "pick" = Str.ofString "less") = False := eq_false (by decide +kernel)
@[simp] theorem str_15_11 : (Str.ofString "pick" = Str.ofString "same") = False := eq_false (by decide +kernel)
@[simp] theorem str_15_12 : (Str.ofString "pick" = Str.ofString "both") = False := eq_false (by decide +kernel)
@[simp] theorem str_15_13 : (Str.ofString "pick" = Str.ofString "any") = False := eq_false (by decide +kernel)
@[simp] theorem str_15_14 : (Str.ofString "pick" = Str.ofString "not") = False := eq_false (by decide +kernel)
@[simp] theorem str_15_16 : (Str.ofString "pick" = Str.ofString "match") = False := eq_false (by decide +kernel)
@[simp] theorem str_15_17 : (Str.ofString "pick" = Str.ofString "keep") = False := eq_false (by decide +kernel)
@[simp] theorem str_15_18 : (Str.ofString "pick" = Str.ofString "rows") = False := eq_false (by decide +kernel)
@[simp] theorem str_15_19 : (Str.ofString "pick" = Str.ofString "unlike") = False := eq_false (by decide +kernel)
@[simp] theorem str_15_20 : (Str.ofString "pick" = Str.ofString "cap") = False := eq_false (by decide +kernel)
@[simp] theorem str_15_21 : (Str.ofString "pick" = Str.ofString "all") = False := eq_false (by decide +kernel)
@[simp] theorem str_16_0 : (Str.ofString "match" = Str.ofString "field") = False := eq_false (by decide +kernel)
@[simp] theorem str_16_1 : (Str.ofString "match" = Str.ofString "num") = False := eq_false (by decide +kernel)
@[simp] theorem str_16_2 : (Str.ofString "match" = Str.ofString "name") = False := eq_false (by decide +kernel)
@[simp] theorem str_16_3 : (Str.ofString "match" = Str.ofString "a") = False := eq_false (by decide +kernel)
@[simp] theorem str_16_4 : (Str.ofString "match" = Str.ofString "b") = False := eq_false (by decide +kernel)
@[simp] theorem str_16_5 : (Str.ofString "match" = Str.ofString "c") = False := eq_false (by decide +kernel)
@[simp] theorem str_16_6 : (Str.ofString "match" = Str.ofString "add") = False := eq_false (by decide +kernel)
@[simp] theorem str_16_7 : (Str.ofString "match" = Str.ofString "sub") = False := eq_false (by decide +kernel)
@[simp] theorem str_16_8 : (Str.ofString "match" = Str.ofString "mul") = False := eq_false (by decide +kernel)
@[simp] theorem str_16_9 : (Str.ofString "match" = Str.ofString "quo") = False := eq_false (by decide +kernel)
@[simp] theorem str_16_10 : (Str.ofString "match" = Str.ofString "less") = False := eq_false (by decide +kernel)
@[simp] theorem str_16_11 : (Str.ofString "match" = Str.ofString "same") = False := eq_false (by decide +kernel)
@[simp] theorem str_16_12 : (Str.ofString "match" = Str.ofString "both") = False := eq_false (by decide +kernel)
@[simp] theorem str_16_13 : (Str.ofString "match" = Str.ofString "any") = False := eq_false (by decide +kernel)
@[simp] theorem str_16_14 : (Str.ofString "match" = Str.ofString "not") = False := eq_false (by decide +kernel)
@[simp] theorem str_16_15 : (Str.ofString "match" = Str.ofString "pick") = False := eq_false (by decide +kernel)
@[simp] theorem str_16_17 : (Str.ofString "match" = Str.ofString "keep") = False := eq_false (by decide +kernel)
@[simp] theorem str_16_18 : (Str.ofString "match" = Str.ofString "rows") = False := eq_false (by decide +kernel)
@[simp] theorem str_16_19 : (Str.ofString "match" = Str.ofString "unlike") = False := eq_false (by decide +kernel)
@[simp] theorem str_16_20 : (Str.ofString "match" = Str.ofString "cap") = False := eq_false (by decide +kernel)
@[simp] theorem str_16_21 : (Str.ofString "match" = Str.ofString "all") = False := eq_false (by decide +kernel)
@[simp] theorem str_17_0 : (Str.ofString "keep" = Str.ofString "field") = False := eq_false (by decide +kernel)
@[simp] theorem str_17_1 : (Str.ofString "keep" = Str.ofString "num") = False := eq_false (by decide +kernel)
@[simp] theorem str_17_2 : (Str.ofString "keep" = Str.ofString "name") = False := eq_false (by decide +kernel)
@[simp] theorem str_17_3 : (Str.ofString "keep" = Str.ofString "a") = False := eq_false (by decide +kernel)
@[simp] theorem str_17_4 : (Str.ofString "keep" = Str.ofString "b") = False := eq_false (by decide +kernel)
@[simp] theorem str_17_5 : (Str.ofString "keep" = Str.ofString "c") = False := eq_false (by decide +kernel)
@[simp] theorem str_17_6 : (Str.ofString "keep" = Str.ofString "add") = False := eq_false (by decide +kernel)
@[simp] theorem str_17_7 : (Str.ofString "keep" = Str.ofString "sub") = False := eq_false (by decide +kernel)
@[simp] theorem str_17_8 : (Str.ofString "keep" = Str.ofString "mul") = False := eq_false (by decide +kernel)
@[simp] theorem str_17_9 : (Str.ofString "keep" = Str.ofString "quo") = False := eq_false (by decide +kernel)
@[simp] theorem str_17_10 : (Str.ofString "keep" = Str.ofString "less") = False := eq_false (by decide +kernel)
@[simp] theorem str_17_11 : (Str.ofString "keep" = Str.ofString "same") = False := eq_false (by decide +kernel)
@[simp] theorem str_17_12 : (Str.ofString "keep" = Str.ofString "both") = False := eq_false (by decide +kernel)
@[simp] theorem str_17_13 : (Str.ofString "keep" = Str.ofString "any") = False := eq_false (by decide +kernel)
@[simp] theorem str_17_14 : (Str.ofString "keep" = Str.ofString "not") = False := eq_false (by decide +kernel)
@[simp] theorem str_17_15 : (Str.ofString "keep" = Str.ofString "pick") = False := eq_false (by decide +kernel)
@[simp] theorem str_17_16 : (Str.ofString "keep" = Str.ofString "match") = False := eq_false (by decide +kernel)
@[simp] theorem str_17_18 : (Str.ofString "keep" = Str.ofString "rows") = False := eq_false (by decide +kernel)
@[simp] theorem str_17_19 : (Str.ofString "keep" = Str.ofString "unlike") = False := eq_false (by decide +kernel)
@[simp] theorem str_17_20 : (Str.ofString "keep" = Str.ofString "cap") = False := eq_false (by decide +kernel)
@[simp] theorem str_17_21 : (Str.ofString "keep" = Str.ofString "all") = False := eq_false (by decide +kernel)
@[simp] theorem str_18_0 : (Str.ofString "rows" = Str.ofString "field") = False := eq_false (by decide +kernel)
@[simp] theorem str_18_1 : (Str.ofString "rows" = Str.ofString "num") = False := eq_false (by decide +kernel)
@[simp] theorem str_18_2 : (Str.ofString "rows" = Str.ofString "name") = False := eq_false (by decide +kernel)
@[simp] theorem str_18_3 : (Str.ofString "rows" = Str.ofString "a") = False := eq_false (by decide +kernel)
@[simp] theorem str_18_4 : (Str.ofString "rows" = Str.ofString "b") = False := eq_false (by decide +kernel)
@[simp] theorem str_18_5 : (Str.ofString "rows" = Str.ofString "c") = False := eq_false (by decide +kernel)
@[simp] theorem str_18_6 : (Str.ofString "rows" = Str.ofString "add") = False := eq_false (by decide +kernel)
@[simp] theorem str_18_7 : (Str.ofString "rows" = Str.ofString "sub") = False := eq_false (by decide +kernel)
@[simp] theorem str_18_8 : (Str.ofString "rows" = Str.ofString "mul") = False := eq_false (by decide +kernel)
@[simp] theorem str_18_9 : (Str.ofString "rows" = Str.ofString "quo") = False := eq_false (by decide +kernel)
@[simp] theorem str_18_10 : (Str.ofString "rows" = Str.ofString "less") = False := eq_false (by decide +kernel)
@[simp] theorem str_18_11 : (Str.ofString "rows" = Str.ofString "same") = False := eq_false (by decide +kernel)
@[simp] theorem str_18_12 : (Str.ofString "rows" = Str.ofString "both") = False := eq_false (by decide +kernel)
@[simp] theorem str_18_13 : (Str.ofString "rows" = Str.ofString "any") = False := eq_false (by decide +kernel)
@[simp] theorem str_18_14 : (Str.ofString "rows" = Str.ofString "not") = False := eq_false (by decide +kernel)
@[simp] theorem str_18_15 : (Str.ofString "rows" = Str.ofString "pick") = False := eq_false (by decide +kernel)
@[simp] theorem str_18_16 : (Str.ofString "rows" = Str.ofString "match") = False := eq_false (by decide +kernel)
@[simp] theorem str_18_17 : (Str.ofString "rows" = Str.ofString "keep") = False := eq_false (by decide +kernel)
@[simp] theorem str_18_19 : (Str.ofString "rows" = Str.ofString "unlike") = False := eq_false (by decide +kernel)
@[simp] theorem str_18_20 : (Str.ofString "rows" = Str.ofString "cap") = False := eq_false (by decide +kernel)
@[simp] theorem str_18_21 : (Str.ofString "rows" = Str.ofString "all") = False := eq_false (by decide +kernel)
@[simp] theorem str_19_0 : (Str.ofString "unlike" = Str.ofString "field") = False := eq_false (by decide +kernel)
@[simp] theorem str_19_1 : (Str.ofString "unlike" = Str.ofString "num") = False := eq_false (by decide +kernel)
@[simp] theorem str_19_2 : (Str.ofString "unlike" = Str.ofString "name") = False := eq_false (by decide +kernel)
@[simp] theorem str_19_3 : (Str.ofString "unlike" = Str.ofString "a") = False := eq_false (by decide +kernel)
@[simp] theorem str_19_4 : (Str.ofString "unlike" = Str.ofString "b") = False := eq_false (by decide +kernel)
@[simp] theorem str_19_5 : (Str.ofString "unlike" = Str.ofString "c") = False := eq_false (by decide +kernel)
@[simp] theorem str_19_6 : (Str.ofString "unlike" = Str.ofString "add") = False := eq_false (by decide +kernel)
@[simp] theorem str_19_7 : (Str.ofString "unlike" = Str.ofString "sub") = False := eq_false (by decide +kernel)
@[simp] theorem str_19_8 : (Str.ofString "unlike" = Str.ofString "mul") = False := eq_false (by decide +kernel)
@[simp] theorem str_19_9 : (Str.ofString "unlike" = Str.ofString "quo") = False := eq_false (by decide +kernel)
@[simp] theorem str_19_10 : (Str.ofString "unlike" = Str.ofString "less") = False := eq_false (by decide +kernel)
@[simp] theorem str_19_11 : (Str.ofString "unlike" = Str.ofString "same") = False := eq_false (by decide +kernel)
@[simp] theorem str_19_12 : (Str.ofString "unlike" = Str.ofString "both") = False := eq_false (by decide +kernel)
@[simp] theorem str_19_13 : (Str.ofString "unlike" = Str.ofString "any") = False := eq_false (by decide +kernel)
@[simp] theorem str_19_14 : (Str.ofString "unlike" = Str.ofString "not") = False := eq_false (by decide +kernel)
@[simp] theorem str_19_15 : (Str.ofString "unlike" = Str.ofString "pick") = False := eq_false (by decide +kernel)
@[simp] theorem str_19_16 : (Str.ofString "unlike" = Str.ofString "match") = False := eq_false (by decide +kernel)
@[simp] theorem str_19_17 : (Str.ofString "unlike" = Str.ofString "keep") = False := eq_false (by decide +kernel)
@[simp] theorem str_19_18 : (Str.ofString "unlike" = Str.ofString "rows") = False := eq_false (by decide +kernel)
@[simp] theorem str_19_20 : (Str.ofString "unlike" = Str.ofString "cap") = False := eq_false (by decide +kernel)
@[simp] theorem str_19_21 : (Str.ofString "unlike" = Str.ofString "all") = False := eq_false (by decide +kernel)
@[simp] theorem str_20_0 : (Str.ofString "cap" = Str.ofString "field") = False := eq_false (by decide +kernel)
@[simp] theorem str_20_1 : (Str.ofString "cap" = Str.ofString "num") = False := eq_false (by decide +kernel)
@[simp] theorem str_20_2 : (Str.ofString "cap" = Str.ofString "name") = False := eq_false (by decide +kernel)
@[simp] theorem str_20_3 : (Str.ofString "cap" = Str.ofString "a") = False := eq_false (by decide +kernel)
@[simp] theorem str_20_4 : (Str.ofString "cap" = Str.ofString "b") = False := eq_false (by decide +kernel)
@[simp] theorem str_20_5 : (Str.ofString "cap" = Str.ofString "c") = False := eq_false (by decide +kernel)
@[simp] theorem str_20_6 : (Str.ofString "cap" = Str.ofString "add") = False := eq_false (by decide +kernel)
@[simp] theorem str_20_7 : (Str.ofString "cap" = Str.ofString "sub") = False := eq_false (by decide +kernel)
@[simp] theorem str_20_8 : (Str.ofString "cap" = Str.ofString "mul") = False := eq_false (by decide +kernel)
@[simp] theorem str_20_9 : (Str.ofString "cap" = Str.ofString "quo") = False := eq_false (by decide +kernel)
@[simp] theorem str_20_10 : (Str.ofString "cap" = Str.ofString "less") = False := eq_false (by decide +kernel)
@[simp] theorem str_20_11 : (Str.ofString "cap" = Str.ofString "same") = False := eq_false (by decide +kernel)
@[simp] theorem str_20_12 : (Str.ofString "cap" = Str.ofString "both") = False := eq_false (by decide +kernel)
@[simp] theorem str_20_13 : (Str.ofString "cap" = Str.ofString "any") = False := eq_false (by decide +kernel)
@[simp] theorem str_20_14 : (Str.ofString "cap" = Str.ofString "not") = False := eq_false (by decide +kernel)
@[simp] theorem str_20_15 : (Str.ofString "cap" = Str.ofString "pick") = False := eq_false (by decide +kernel)
@[simp] theorem str_20_16 : (Str.ofString "cap" = Str.ofString "match") = False := eq_false (by decide +kernel)
@[simp] theorem str_20_17 : (Str.ofString "cap" = Str.ofString "keep") = False := eq_false (by decide +kernel)
@[simp] theorem str_20_18 : (Str.ofString "cap" = Str.ofString "rows") = False := eq_false (by decide +kernel)
@[simp] theorem str_20_19 : (Str.ofString "cap" = Str.ofString "unlike") = False := eq_false (by decide +kernel)
@[simp] theorem str_20_21 : (Str.ofString "cap" = Str.ofString "all") = False := eq_false (by decide +kernel)
@[simp] theorem str_21_0 : (Str.ofString "all" = Str.ofString "field") = False := eq_false (by decide +kernel)
@[simp] theorem str_21_1 : (Str.ofString "all" = Str.ofString "num") = False := eq_false (by decide +kernel)
@[simp] theorem str_21_2 : (Str.ofString "all" = Str.ofString "name") = False := eq_false (by decide +kernel)
@[simp] theorem str_21_3 : (Str.ofString "all" = Str.ofString "a") = False := eq_false (by decide +kernel)
@[simp] theorem str_21_4 : (Str.ofString "all" = Str.ofString "b") = False := eq_false (by decide +kernel)
@[simp] theorem str_21_5 : (Str.ofString "all" = Str.ofString "c") = False := eq_false (by decide +kernel)
@[simp] theorem str_21_6 : (Str.ofString "all" = Str.ofString "add") = False := eq_false (by decide +kernel)
@[simp] theorem str_21_7 : (Str.ofString "all" = Str.ofString "sub") = False := eq_false (by decide +kernel)
@[simp] theorem str_21_8 : (Str.ofString "all" = Str.ofString "mul") = False := eq_false (by decide +kernel)
@[simp] theorem str_21_9 : (Str.ofString "all" = Str.ofString "quo") = False := eq_false (by decide +kernel)
@[simp] theorem str_21_10 : (Str.ofString "all" = Str.ofString "less") = False := eq_false (by decide +kernel)
@[simp] theorem str_21_11 : (Str.ofString "all" = Str.ofString "same") = False := eq_false (by decide +kernel)
@[simp] theorem str_21_12 : (Str.ofString "all" = Str.ofString "both") = False := eq_false (by decide +kernel)
@[simp] theorem str_21_13 : (Str.ofString "all" = Str.ofString "any") = False := eq_false (by decide +kernel)
@[simp] theorem str_21_14 : (Str.ofString "all" = Str.ofString "not") = False := eq_false (by decide +kernel)
@[simp] theorem str_21_15 : (Str.ofString "all" = Str.ofString "pick") = False := eq_false (by decide +kernel)
@[simp] theorem str_21_16 : (Str.ofString "all" = Str.ofString "match") = False := eq_false (by decide +kernel)
@[simp] theorem str_21_17 : (Str.ofString "all" = Str.ofString "keep") = False := eq_false (by decide +kernel)
@[simp] theorem str_21_18 : (Str.ofString "all" = Str.ofString "rows") = False := eq_false (by decide +kernel)
@[simp] theorem str_21_19 : (Str.ofString "all" = Str.ofString "unlike") = False := eq_false (by decide +kernel)
@[simp] theorem str_21_20 : (Str.ofString "all" = Str.ofString "cap") = False := eq_false (by decide +kernel)
-- LIBS 
noncomputable def t_l_cell_at (script : (List Int)) (k : Int) : Res Int :=
  if k < ((script.length : Nat) : Int) then
  (getL script k)
else
  Res.ok (0 : Int)
theorem r_l_cell_at : CallR F_l_cell_at (qC (eL eI) (q1 eI)) (fun (a : (List Int) × Int) => t_l_cell_at a.1 a.2) eI := by
  rintro ⟨script, k⟩ _ ⟨d0, _, rfl, h0, ⟨d1, rfl, h1⟩⟩
  refine r_def (n := 2) (m := 2) (k := 0) (ρ := ([some (sh (eL eI) script), some (sh eI k)] : KEnv)) (LeA.cons h0 (LeA.cons h1 LeA.nil)) rfl ?_
  exact (j_ifsP (al := []) (b_test (v_opp (o_lt _ _) (v_s (E := eI) (a := k) (i := 1) rfl) (v_1p (o_lenL _) (v_s (E := (eL eI)) (a := script) (i := 0) rfl)))) (j_assoc (j_retT (v_opp (o_ixAL _ _) (v_s (E := (eL eI)) (a := script) (i := 0) rfl) (v_s (E := eI) (a := k) (i := 1) rfl)))) (j_skip (j_retT (vN 0))))
theorem c_l_cell_at {ρ : KEnv} {fs : DL.Env → Res (List D)} {x0 : (List Int)} {x1 : Int} (h : EvR ρ fs (.ok (x0, x1)) (qC (eL eI) (q1 eI))) : EvR ρ (eCall F_l_cell_at fs) (t_l_cell_at x0 x1) eI := v_callp (t := fun a : (List Int) × Int => t_l_cell_at a.1 a.2) (a := (x0, x1)) r_l_cell_at h
theorem m_l_cell_at {ρ : KEnv} {fs : DL.Env → Res (List D)} {r : Res ((List Int) × Int)} (h : EvR ρ fs r (qC (eL eI) (q1 eI))) : EvR ρ (eCall F_l_cell_at fs) (r.bind fun a => t_l_cell_at a.1 a.2) eI := v_call (t := fun a : (List Int) × Int => t_l_cell_at a.1 a.2) r_l_cell_at h
noncomputable def t_l_mix (cell : Int) (k : Int) : Res Int :=
  (((mulR cell (48271 : Int)).bind fun a3 => ((mulR (k + (1 : Int)) (k + (1 : Int))).bind fun a1 => (mulR a1 (69621 : Int))).bind fun b4 => .ok (a3 + b4)).bind fun a5 => .ok (a5 % (2147483647 : Int))).bind fun m6 =>
  ((mulR m6 m6).bind fun a7 => .ok (a7 % (2147483629 : Int)))
theorem r_l_mix : CallR F_l_mix (qC eI (q1 eI)) (fun (a : Int × Int) => t_l_mix a.1 a.2) eI := by
  rintro ⟨cell, k⟩ _ ⟨d0, _, rfl, h0, ⟨d1, rfl, h1⟩⟩
  refine r_def (n := 2) (m := 3) (k := 1) (ρ := ([some (sh eI cell), some (sh eI k)] : KEnv)) (LeA.cons h0 (LeA.cons h1 LeA.nil)) rfl ?_
  exact (j_do (d_set (al := []) (v_opl (fun a => o_modL a (by decide)) (v_op o_add (v_opp (o_mul _ _) (v_s (E := eI) (a := cell) (i := 0) rfl) (vN 48271)) (v_op o_mul (v_opp (o_mul _ _) (v_opp (o_add _ _) (v_s (E := eI) (a := k) (i := 1) rfl) (vN 1)) (v_opp (o_add _ _) (v_s (E := eI) (a := k) (i := 1) rfl) (vN 1))) (vN 69621))) (vN 2147483647))) (fun m6 => (j_retT (v_opl (fun a => o_modL a (by decide)) (v_opp (o_mul _ _) (v_s (E := eI) (a := m6) (i := 2) rfl) (v_s (E := eI) (a := m6) (i := 2) rfl)) (vN 2147483629)))))
theorem c_l_mix {ρ : KEnv} {fs : DL.Env → Res (List D)} {x0 : Int} {x1 : Int} (h : EvR ρ fs (.ok (x0, x1)) (qC eI (q1 eI))) : EvR ρ (eCall F_l_mix fs) (t_l_mix x0 x1) eI := v_callp (t := fun a : Int × Int => t_l_mix a.1 a.2) (a := (x0, x1)) r_l_mix h
theorem m_l_mix {ρ : KEnv} {fs : DL.Env → Res (List D)} {r : Res (Int × Int)} (h : EvR ρ fs r (qC eI (q1 eI))) : EvR ρ (eCall F_l_mix fs) (r.bind fun a => t_l_mix a.1 a.2) eI := v_call (t := fun a : Int × Int => t_l_mix a.1 a.2) r_l_mix h
noncomputable def t_l_number (cell : Int) (k : Int) (many : Int) : Res Int :=
  (t_l_mix cell k).bind fun n1 =>
  if (n1 % (5 : Int)) = (0 : Int) then
  ((((mulR (2 : Int) (10 ^ 18 : Int)).bind fun a2 => .ok (a2 + (1 : Int))).bind fun b5 => (modR cell b5)).bind fun a6 => .ok (a6 - (10 ^ 18 : Int)))
else
  ((modR (n1 / (5 : Int)) many).bind fun a8 => .ok (a8 - (many / (2 : Int))))
theorem r_l_number : CallR F_l_number (qC eI (qC eI (q1 eI))) (fun (a : Int × Int × Int) => t_l_number a.1 a.2.1 a.2.2) eI := by
  rintro ⟨cell, k, many⟩ _ ⟨d0, _, rfl, h0, ⟨d1, _, rfl, h1, ⟨d2, rfl, h2⟩⟩⟩
  refine r_def (n := 3) (m := 4) (k := 1) (ρ := ([some (sh eI cell), some (sh eI k), some (sh eI many)] : KEnv)) (LeA.cons h0 (LeA.cons h1 (LeA.cons h2 LeA.nil))) rfl ?_
  exact (j_do (d_set (al := []) (c_l_mix (vq_cp (v_s (E := eI) (a := cell) (i := 0) rfl) (vq_1 (v_s (E := eI) (a := k) (i := 1) rfl))))) (fun n1 => (j_ifsP (al := []) (b_test (v_opp ((o_eq (EqE.int _)) _ _) (v_opp (o_modL _ (by decide)) (v_s (E := eI) (a := n1) (i := 3) rfl) (vN 5)) (vN 0))) (j_assoc (j_retT (v_op o_sub (v_op o_mod (v_s (E := eI) (a := cell) (i := 0) rfl) (v_op o_add (v_opp (o_mul _ _) (vN 2) (v_opp (o_powL pow_10_18) (vN 10) (vN 18))) (vN 1))) (v_opp (o_powL pow_10_18) (vN 10) (vN 18))))) (j_skip (j_retT (v_op o_sub (v_opp (o_mod _ _) (v_opp (o_divL _ (by decide) (by decide)) (v_s (E := eI) (a := n1) (i := 3) rfl) (vN 5)) (v_s (E := eI) (a := many) (i := 2) rfl)) (v_opp (o_divL _ (by decide) (by decide)) (v_s (E := eI) (a := many) (i := 2) rfl) (vN 2))))))))
theorem c_l_number {ρ : KEnv} {fs : DL.Env → Res (List D)} {x0 : Int} {x1 : Int} {x2 : Int} (h : EvR ρ fs (.ok (x0, x1, x2)) (qC eI (qC eI (q1 eI)))) : EvR ρ (eCall F_l_number fs) (t_l_number x0 x1 x2) eI := v_callp (t := fun a : Int × Int × Int => t_l_number a.1 a.2.1 a.2.2) (a := (x0, x1, x2)) r_l_number h
theorem m_l_number {ρ : KEnv} {fs : DL.Env → Res (List D)} {r : Res (Int × Int × Int)} (h : EvR ρ fs r (qC eI (qC eI (q1 eI)))) : EvR ρ (eCall F_l_number fs) (r.bind fun a => t_l_number a.1 a.2.1 a.2.2) eI := v_call (t := fun a : Int × Int × Int => t_l_number a.1 a.2.1 a.2.2) r_l_number h
noncomputable def t_l_leaf (cell : Int) (k : Int) (width : Int) : Res D :=
  (t_l_mix cell k).bind fun n1 =>
  if (n1 % (4 : Int)) = (0 : Int) then
  (((t_l_number cell (k + (100 : Int)) (7 : Int)).bind fun b3 => .ok (("num" : Str), b3)).bind fun z => .ok ((fPr (fCons D.str (fOne D.int))) z))
else
  if (n1 % (8 : Int)) = (1 : Int) then
  (((getL [("a" : Str), ("b" : Str), ("c" : Str)] ((n1 / (8 : Int)) % (3 : Int))).bind fun b5 => .ok (("name" : Str), b5)).bind fun z => .ok ((fPr (fCons D.str (fOne D.str))) z))
else
  (((modR (n1 / (8 : Int)) width).bind fun b7 => .ok (("field" : Str), b7)).bind fun z => .ok ((fPr (fCons D.str (fOne D.int))) z))
theorem r_l_leaf : CallR F_l_leaf (qC eI (qC eI (q1 eI))) (fun (a : Int × Int × Int) => t_l_leaf a.1 a.2.1 a.2.2) eD := by
  rintro ⟨cell, k, width⟩ _ ⟨d0, _, rfl, h0, ⟨d1, _, rfl, h1, ⟨d2, rfl, h2⟩⟩⟩
  refine r_def (n := 3) (m := 4) (k := 1) (ρ := ([some (sh eI cell), some (sh eI k), some (sh eI width)] : KEnv)) (LeA.cons h0 (LeA.cons h1 (LeA.cons h2 LeA.nil))) rfl ?_
  exact (j_do (d_set (al := []) (c_l_mix (vq_cp (v_s (E := eI) (a := cell) (i := 0) rfl) (vq_1 (v_s (E := eI) (a := k) (i := 1) rfl))))) (fun n1 => (j_ifsP (al := []) (b_test (v_opp ((o_eq (EqE.int _)) _ _) (v_opp (o_modL _ (by decide)) (v_s (E := eI) (a := n1) (i := 3) rfl) (vN 4)) (vN 0))) (j_assoc (j_retT (v_mapF (f := (fPr (fCons D.str (fOne D.int)))) (Fun.pr (FunQ.c Fun.str (FunQ.one Fun.int))) (v_tupQ (vq_c (v_c (E := eS) (a := ("num" : Str)) rfl) (vq_1 (c_l_number (vq_cp (v_s (E := eI) (a := cell) (i := 0) rfl) (vq_cp (v_opp (o_add _ _) (v_s (E := eI) (a := k) (i := 1) rfl) (vN 100)) (vq_1 (vN 7))))))))))) (j_skip (j_ifsP (al := []) (b_test (v_opp ((o_eq (EqE.int _)) _ _) (v_opp (o_modL _ (by decide)) (v_s (E := eI) (a := n1) (i := 3) rfl) (vN 8)) (vN 1))) (j_assoc (j_retT (v_mapF (f := (fPr (fCons D.str (fOne D.str)))) (Fun.pr (FunQ.c Fun.str (FunQ.one Fun.str))) (v_tupQ (vq_c (v_c (E := eS) (a := ("name" : Str)) rfl) (vq_1 (v_opp (o_ixAL _ _) (v_lst (vl_cp (v_c (E := eS) (a := ("a" : Str)) rfl) (vl_cp (v_c (E := eS) (a := ("b" : Str)) rfl) (vl_cp (v_c (E := eS) (a := ("c" : Str)) rfl) vl_nil)))) (v_opp (o_modL _ (by decide)) (v_opp (o_divL _ (by decide) (by decide)) (v_s (E := eI) (a := n1) (i := 3) rfl) (vN 8)) (vN 3))))))))) (j_skip (j_retT (v_mapF (f := (fPr (fCons D.str (fOne D.int)))) (Fun.pr (FunQ.c Fun.str (FunQ.one Fun.int))) (v_tupQ (vq_c (v_c (E := eS) (a := ("field" : Str)) rfl) (vq_1 (v_opp (o_mod _ _) (v_opp (o_divL _ (by decide) (by decide)) (v_s (E := eI) (a := n1) (i := 3) rfl) (vN 8)) (v_s (E := eI) (a := width) (i := 2) rfl)))))))))))))
theorem c_l_leaf {ρ : KEnv} {fs : DL.Env → Res (List D)} {x0 : Int} {x1 : Int} {x2 : Int} (h : EvR ρ fs (.ok (x0, x1, x2)) (qC eI (qC eI (q1 eI)))) : EvR ρ (eCall F_l_leaf fs) (t_l_leaf x0 x1 x2) eD := v_callp (t := fun a : Int × Int × Int => t_l_leaf a.1 a.2.1 a.2.2) (a := (x0, x1, x2)) r_l_leaf h
theorem m_l_leaf {ρ : KEnv} {fs : DL.Env → Res (List D)} {r : Res (Int × Int × Int)} (h : EvR ρ fs r (qC eI (qC eI (q1 eI)))) : EvR ρ (eCall F_l_leaf fs) (r.bind fun a => t_l_leaf a.1 a.2.1 a.2.2) eD := v_call (t := fun a : Int × Int × Int => t_l_leaf a.1 a.2.1 a.2.2) r_l_leaf h
noncomputable def t_l_term (cell : Int) (k : Int) (width : Int) : Res D :=
  (t_l_mix cell k).bind fun n1 =>
  (t_l_leaf cell (k + (20 : Int)) width).bind fun one2 =>
  (t_l_leaf cell (k + (40 : Int)) width).bind fun two3 =>
  if (n1 % (8 : Int)) < (3 : Int) then
  Res.ok one2
else
  if (n1 % (8 : Int)) = (3 : Int) then
  Res.ok ((fPr (fCons D.str (fOne (fun d => d)))) (("not" : Str), one2))
else
  if (n1 % (8 : Int)) = (4 : Int) then
  (((((t_l_leaf cell (k + (60 : Int)) width).bind fun b5 => .ok (two3, b5)).bind fun b7 => .ok (one2, b7)).bind fun b9 => .ok (("pick" : Str), b9)).bind fun z => .ok ((fPr (fCons D.str (fCons (fun d => d) (fCons (fun d => d) (fOne (fun d => d)))))) z))
else
  (Res.ok [("add" : Str), ("sub" : Str), ("mul" : Str), ("quo" : Str), ("less" : Str), ("same" : Str), ("both" : Str), ("any" : Str)]).bind fun ops10 =>
  (((getL ops10 ((n1 / (8 : Int)) % (8 : Int))).bind fun a11 => .ok (a11, one2, two3)).bind fun z => .ok ((fPr (fCons D.str (fCons (fun d => d) (fOne (fun d => d))))) z))
theorem r_l_term : CallR F_l_term (qC eI (qC eI (q1 eI))) (fun (a : Int × Int × Int) => t_l_term a.1 a.2.1 a.2.2) eD := by
  rintro ⟨cell, k, width⟩ _ ⟨d0, _, rfl, h0, ⟨d1, _, rfl, h1, ⟨d2, rfl, h2⟩⟩⟩
  refine r_def (n := 3) (m := 8) (k := 5) (ρ := ([some (sh eI cell), some (sh eI k), some (sh eI width)] : KEnv)) (LeA.cons h0 (LeA.cons h1 (LeA.cons h2 LeA.nil))) rfl ?_
  exact (j_do (d_set (al := []) (c_l_mix (vq_cp (v_s (E := eI) (a := cell) (i := 0) rfl) (vq_1 (v_s (E := eI) (a := k) (i := 1) rfl))))) (fun n1 => (j_do (d_set (al := []) (c_l_leaf (vq_cp (v_s (E := eI) (a := cell) (i := 0) rfl) (vq_cp (v_opp (o_add _ _) (v_s (E := eI) (a := k) (i := 1) rfl) (vN 20)) (vq_1 (v_s (E := eI) (a := width) (i := 2) rfl)))))) (fun one2 => (j_do (d_set (al := []) (c_l_leaf (vq_cp (v_s (E := eI) (a := cell) (i := 0) rfl) (vq_cp (v_opp (o_add _ _) (v_s (E := eI) (a := k) (i := 1) rfl) (vN 40)) (vq_1 (v_s (E := eI) (a := width) (i := 2) rfl)))))) (fun two3 => (j_go (g_set (al := []) (v_opp (o_modL _ (by decide)) (v_s (E := eI) (a := n1) (i := 3) rfl) (vN 8))) (j_ifsP (al := []) (b_test (v_opp (o_lt _ _) (v_s (E := eI) (a := (n1 % (8 : Int))) (i := 6) rfl) (vN 3))) (j_assoc (j_retT (v_s (E := eD) (a := one2) (i := 4) rfl))) (j_skip (j_ifsP (al := []) (b_test (v_opp ((o_eq (EqE.int _)) _ _) (v_s (E := eI) (a := (n1 % (8 : Int))) (i := 6) rfl) (vN 3))) (j_assoc (j_retT (v_castF (f := (fPr (fCons D.str (fOne (fun d => d))))) (Fun.pr (FunQ.c Fun.str (FunQ.one Fun.raw))) (v_tupQ (vq_cp (v_c (E := eS) (a := ("not" : Str)) rfl) (vq_1 (v_s (E := eD) (a := one2) (i := 4) rfl))))))) (j_skip (j_ifsP (al := []) (b_test (v_opp ((o_eq (EqE.int _)) _ _) (v_s (E := eI) (a := (n1 % (8 : Int))) (i := 6) rfl) (vN 4))) (j_assoc (j_retT (v_mapF (f := (fPr (fCons D.str (fCons (fun d => d) (fCons (fun d => d) (fOne (fun d => d))))))) (Fun.pr (FunQ.c Fun.str (FunQ.c Fun.raw (FunQ.c Fun.raw (FunQ.one Fun.raw))))) (v_tupQ (vq_c (v_c (E := eS) (a := ("pick" : Str)) rfl) (vq_c (v_s (E := eD) (a := one2) (i := 4) rfl) (vq_c (v_s (E := eD) (a := two3) (i := 5) rfl) (vq_1 (c_l_leaf (vq_cp (v_s (E := eI) (a := cell) (i := 0) rfl) (vq_cp (v_opp (o_add _ _) (v_s (E := eI) (a := k) (i := 1) rfl) (vN 60)) (vq_1 (v_s (E := eI) (a := width) (i := 2) rfl))))))))))))) (j_skip (j_do (d_set (al := []) (v_lst (vl_cp (v_c (E := eS) (a := ("add" : Str)) rfl) (vl_cp (v_c (E := eS) (a := ("sub" : Str)) rfl) (vl_cp (v_c (E := eS) (a := ("mul" : Str)) rfl) (vl_cp (v_c (E := eS) (a := ("quo" : Str)) rfl) (vl_cp (v_c (E := eS) (a := ("less" : Str)) rfl) (vl_cp (v_c (E := eS) (a := ("same" : Str)) rfl) (vl_cp (v_c (E := eS) (a := ("both" : Str)) rfl) (vl_cp (v_c (E := eS) (a := ("any" : Str)) rfl) vl_nil)))))))))) (fun ops10 => (j_retT (v_mapF (f := (fPr (fCons D.str (fCons (fun d => d) (fOne (fun d => d)))))) (Fun.pr (FunQ.c Fun.str (FunQ.c Fun.raw (FunQ.one Fun.raw)))) (v_tupQ (vq_c (v_opp (o_ixAL _ _) (v_s (E := (eL eS)) (a := ops10) (i := 7) rfl) (v_opp (o_modL _ (by decide)) (v_opp (o_divL _ (by decide) (by decide)) (v_s (E := eI) (a := n1) (i := 3) rfl) (vN 8)) (vN 8))) (vq_cp (v_s (E := eD) (a := one2) (i := 4) rfl) (vq_1 (v_s (E := eD) (a := two3) (i := 5) rfl))))))))))))))))))))))
theorem c_l_term {ρ : KEnv} {fs : DL.Env → Res (List D)} {x0 : Int} {x1 : Int} {x2 : Int} (h : EvR ρ fs (.ok (x0, x1, x2)) (qC eI (qC eI (q1 eI)))) : EvR ρ (eCall F_l_term fs) (t_l_term x0 x1 x2) eD := v_callp (t := fun a : Int × Int × Int => t_l_term a.1 a.2.1 a.2.2) (a := (x0, x1, x2)) r_l_term h
theorem m_l_term {ρ : KEnv} {fs : DL.Env → Res (List D)} {r : Res (Int × Int × Int)} (h : EvR ρ fs r (qC eI (qC eI (q1 eI)))) : EvR ρ (eCall F_l_term fs) (r.bind fun a => t_l_term a.1 a.2.1 a.2.2) eD := v_call (t := fun a : Int × Int × Int => t_l_term a.1 a.2.1 a.2.2) r_l_term h
noncomputable def t_l_made_pairs (cell : Int) (wide : Int) : Res (List (Int × (List Int))) :=
  (t_l_mix cell (330 : Int)).bind fun n1 =>
  (Res.ok ([] : List (Int × (List Int)))).bind fun pairs2 =>
  if wide = (4 : Int) then
  Res.ok ([] : List (Int × (List Int)))
else
  ((rng1 (n1 % (9 : Int))).bind fun l23 => forR l23 pairs2 (fun j4 s3 =>
  (((mulR j4 j4).bind fun a5 => (mulR a5 (7919 : Int))).bind fun b8 => .ok (cell + b8)).bind fun one9 =>
  ((((modR (n1 / (9 : Int)) ((4 : Int) - wide)).bind fun b11 => .ok ((1 : Int) + b11)).bind rng1).bind fun l13 => compR l13 (fun i12 => (t_l_number one9 ((340 : Int) + i12) (3 : Int)))).bind fun row15 =>
  (((((t_l_mix one9 (350 : Int)).bind fun a17 => .ok (a17 % (3 : Int))).bind fun a18 => .ok (a18 - (1 : Int))).bind fun a20 => .ok (a20, row15)).bind fun a22 => appR s3 a22).bind fun pairs16 =>
  Res.ok pairs16) : Res ((List (Int × (List Int))))).bind fun s3 =>
  Res.ok s3
theorem r_l_made_pairs : CallR F_l_made_pairs (qC eI (q1 eI)) (fun (a : Int × Int) => t_l_made_pairs a.1 a.2) (eT (eQ (qC eI (q1 eR)))) := by
  rintro ⟨cell, wide⟩ _ ⟨d0, _, rfl, h0, ⟨d1, rfl, h1⟩⟩
  refine r_def (n := 2) (m := 8) (k := 6) (ρ := ([some (sh eI cell), some (sh eI wide)] : KEnv)) (LeA.cons h0 (LeA.cons h1 LeA.nil)) rfl ?_
  exact (j_do (d_set (al := []) (c_l_mix (vq_cp (v_s (E := eI) (a := cell) (i := 0) rfl) (vq_1 (vN 330))))) (fun n1 => (j_do (d_setF (al := []) (v_lst (vl_nil (E := (eQ (qC eI (q1 eR))))))) (fun pairs2 => (j_ifsP (al := []) (b_test (v_opp ((o_eq (EqE.int _)) _ _) (v_s (E := eI) (a := wide) (i := 1) rfl) (vN 4))) (j_assoc (j_retT (v_tupT (vl_nil (E := (eQ (qC eI (q1 eR)))))))) (j_skip (j_do (d_for (al := []) (ρs := fun (s3 : ((List (Int × (List Int))))) => ([some (sh eI cell), some (sh eI wide), some (sh eI n1), some (ow (eL (eQ (qC eI (q1 eR)))) s3), none, none, none, none] : KEnv)) (ρb := fun j4 (s3 : ((List (Int × (List Int))))) => ([some (sh eI cell), some (sh eI wide), some (sh eI n1), some (ow (eL (eQ (qC eI (q1 eR)))) s3), some (sh eI j4), none, none, none] : KEnv)) (v_rng1p (v_opp (o_modL _ (by decide)) (v_s (E := eI) (a := n1) (i := 2) rfl) (vN 9))) (Sb.same (Sb.same (Sb.same (Sb.same (Sb.drop (Sb.drop (Sb.drop (Sb.drop Sb.nil)))))))) (fun j4 s3 => (p_nm (i := 4))) (fun j4 s3 => (j_do (d_set (al := []) (v_op o_add (v_s (E := eI) (a := cell) (i := 0) rfl) (v_op o_mul (v_opp (o_mul _ _) (v_s (E := eI) (a := j4) (i := 4) rfl) (v_s (E := eI) (a := j4) (i := 4) rfl)) (vN 7919)))) (fun one9 => (j_do (d_set (al := []) (v_1i o_tupLR (v_comp (ρb := fun i12 => ([some (sh eI cell), some (sh eI wide), some (sh eI n1), some (ow (eL (eQ (qC eI (q1 eR)))) s3), some (sh eI j4), some (sh eI one9), none, some (sh eI i12)] : KEnv)) (v_rng1 (v_op o_add (vN 1) (v_opp (o_mod _ _) (v_opp (o_divL _ (by decide) (by decide)) (v_s (E := eI) (a := n1) (i := 2) rfl) (vN 9)) (v_opp (o_sub _ _) (vN 4) (v_s (E := eI) (a := wide) (i := 1) rfl))))) (fun i12 => (p_nm (i := 7))) (fun i12 => (c_l_number (vq_cp (v_s (E := eI) (a := one9) (i := 5) rfl) (vq_cp (v_opp (o_add _ _) (vN 340) (v_s (E := eI) (a := i12) (i := 7) rfl)) (vq_1 (vN 3))))))))) (fun row15 => (j_do (d_app (al := []) rfl (v_tupQ (vq_c (v_op o_sub (v_opl (fun a => o_modL a (by decide)) (c_l_mix (vq_cp (v_s (E := eI) (a := one9) (i := 5) rfl) (vq_1 (vN 350)))) (vN 3)) (vN 1)) (vq_1 (v_s (E := eR) (a := row15) (i := 6) rfl))))) (fun pairs16 => (j_endB (Sb.same (Sb.same (Sb.same (Sb.same (Sb.drop (Sb.drop (Sb.drop (Sb.drop Sb.nil))))))))))))))))) (fun s3 => (j_retT (v_1p (o_tupL _) (v_o (E := (eL (eQ (qC eI (q1 eR))))) (a := s3) (i := 3) rfl)))))))))))
theorem c_l_made_pairs {ρ : KEnv} {fs : DL.Env → Res (List D)} {x0 : Int} {x1 : Int} (h : EvR ρ fs (.ok (x0, x1)) (qC eI (q1 eI))) : EvR ρ (eCall F_l_made_pairs fs) (t_l_made_pairs x0 x1) (eT (eQ (qC eI (q1 eR)))) := v_callp (t := fun a : Int × Int => t_l_made_pairs a.1 a.2) (a := (x0, x1)) r_l_made_pairs h
theorem m_l_made_pairs {ρ : KEnv} {fs : DL.Env → Res (List D)} {r : Res (Int × Int)} (h : EvR ρ fs r (qC eI (q1 eI))) : EvR ρ (eCall F_l_made_pairs fs) (r.bind fun a => t_l_made_pairs a.1 a.2) (eT (eQ (qC eI (q1 eR)))) := v_call (t := fun a : Int × Int => t_l_made_pairs a.1 a.2) r_l_made_pairs h
noncomputable def t_l_most (pairs : (List (Int × (List Int)))) : Res Int :=
  (compR pairs (fun pair1 => (Res.ok pair1.1))).bind fun numbers2 =>
  ((compR numbers2 (fun number_here3 => (Res.ok ((numbers2.count number_here3 : Nat) : Int)))).bind fun a4 => .ok (maxDef 0 a4))
theorem r_l_most : CallR F_l_most (q1 (eT (eQ (qC eI (q1 eR))))) (fun (a : (List (Int × (List Int)))) => t_l_most a) eI := by
  rintro pairs _ ⟨d0, rfl, h0⟩
  refine r_def (n := 1) (m := 4) (k := 3) (ρ := ([some (sh (eT (eQ (qC eI (q1 eR)))) pairs)] : KEnv)) (LeA.cons h0 LeA.nil) rfl ?_
  exact (j_do (d_set (al := []) (v_compP (ρb := fun pair1 => ([some (sh (eT (eQ (qC eI (q1 eR)))) pairs), none, some (sh (eQ (qC eI (q1 eR))) pair1), none] : KEnv)) (v_seqT (v_s (E := (eT (eQ (qC eI (q1 eR))))) (a := pairs) (i := 0) rfl)) (fun pair1 => (p_nm (i := 2))) (fun pair1 => (v_opp ((o_ixQ (k := 0) IxQ.z) _) (v_s (E := (eQ (qC eI (q1 eR)))) (a := pair1) (i := 2) rfl) (vN 0))))) (fun numbers2 => (j_retT (v_1 (o_maxDef (0)) (v_compP (ρb := fun number_here3 => ([some (sh (eT (eQ (qC eI (q1 eR)))) pairs), some (sh (eL eI) numbers2), none, some (sh eI number_here3)] : KEnv)) (v_seqL (v_s (E := (eL eI)) (a := numbers2) (i := 1) rfl)) (fun number_here3 => (p_nm (i := 3))) (fun number_here3 => (v_meth2 ty_L o_countI (v_s (E := (eL eI)) (a := numbers2) (i := 1) rfl) (v_s (E := eI) (a := number_here3) (i := 3) rfl))))))))
theorem c_l_most {ρ : KEnv} {fs : DL.Env → Res (List D)} {x0 : (List (Int × (List Int)))} (h : EvR ρ fs (.ok x0) (q1 (eT (eQ (qC eI (q1 eR)))))) : EvR ρ (eCall F_l_most fs) (t_l_most x0) eI := v_callp (t := fun a : (List (Int × (List Int))) => t_l_most a) (a := x0) r_l_most h
theorem m_l_most {ρ : KEnv} {fs : DL.Env → Res (List D)} {r : Res ((List (Int × (List Int))))} (h : EvR ρ fs r (q1 (eT (eQ (qC eI (q1 eR)))))) : EvR ρ (eCall F_l_most fs) (r.bind fun a => t_l_most a) eI := v_call (t := fun a : (List (Int × (List Int))) => t_l_most a) r_l_most h
noncomputable def t_l_grown (cell : Int) (past : (List (D × Int × Int × Bool × Int))) : Res ((D × Int × Int × Bool × Int) × (List (D × Int × Int × Bool × Int))) :=
  (getL past (-(1 : Int))).bind fun z1 =>
  (t_l_mix cell (310 : Int)).bind fun n2 =>
  if (n2 % (7 : Int)) < (2 : Int) then
  (((((t_l_term cell (360 : Int) z1.2.1).bind fun a3 => .ok (a3, z1.1)).bind fun b6 => .ok (("keep" : Str), b6)).bind fun z => .ok ((fPr (fCons D.str (fCons (fun d => d) (fOne (fun d => d))))) z)).bind fun a7 => .ok (a7, z1.2.1, z1.2.2.1, z1.2.2.2.1, (z1.2.2.2.2 + (1 : Int)))).bind fun v => .ok (v, past)
else
  if (n2 % (7 : Int)) = (2 : Int) then
  (Res.ok ((1 : Int) + (((n2 / (7 : Int)) / (3 : Int)) % (4 : Int)))).bind fun fields9 =>
  ((rng1 ((1 : Int) + ((n2 / (7 : Int)) % (3 : Int)))).bind fun l28 => forR l28 ([] : List (List D)) (fun j11 s10 =>
  (((rng1 fields9).bind fun l25 => compR l25 (fun i13 => (((mulR j11 j11).bind fun b15 => .ok (cell + b15)).bind fun a22 => ((mulR (7 : Int) i13).bind fun b17 => .ok ((370 : Int) + b17)).bind fun a23 => t_l_term a22 a23 z1.2.1))).bind fun a27 => appR s10 a27).bind fun lists12 =>
  Res.ok lists12) : Res ((List (List D)))).bind fun s10 =>
  ((((mulR z1.2.2.1 ((s10.length : Nat) : Int)).bind fun a29 => .ok (a29, z1.2.2.2.1, (z1.2.2.2.2 + (1 : Int)))).bind fun b32 => .ok (fields9, b32)).bind fun b34 => .ok (((fPr (fCons D.str (fCons (fTup (fTup (fun d => d))) (fOne (fun d => d))))) (("rows" : Str), s10, z1.1)), b34)).bind fun v => .ok (v, past)
else
  if (n2 % (7 : Int)) = (3 : Int) then
  Res.ok ((((fPr (fCons D.str (fOne (fun d => d)))) (("unlike" : Str), z1.1)), z1.2.1, z1.2.2.1, z1.2.2.2.1, (z1.2.2.2.2 + (1 : Int))), past)
else
  if (n2 % (7 : Int)) = (4 : Int) then
  (getL [(1 : Int), (2 : Int), (3 : Int), (1 : Int), ((1 : Int) + (((n2 / (7 : Int)) / (5 : Int)) % (40 : Int)))] ((n2 / (7 : Int)) % (5 : Int))).bind fun many35 =>
  (((((t_l_term cell (360 : Int) z1.2.1).bind fun a36 => .ok (a36, many35, z1.1)).bind fun b39 => .ok (("cap" : Str), b39)).bind fun z => .ok ((fPr (fCons D.str (fCons (fun d => d) (fCons D.int (fOne (fun d => d)))))) z)).bind fun a44 => (((mulR z1.2.2.1 (2 : Int)).bind fun a40 => .ok (a40, false, (z1.2.2.2.2 + (1 : Int)))).bind fun b43 => .ok (z1.2.1, b43)).bind fun b45 => .ok (a44, b45)).bind fun v => .ok (v, past)
else
  if (n2 % (7 : Int)) = (5 : Int) then
  (compF past (fun one46 => (Res.ok (decide (one46.2.1 = z1.2.1)))) (fun one46 => (Res.ok one46))).bind fun fit47 =>
  ((modR (n2 / (7 : Int)) ((fit47.length : Nat) : Int)).bind fun b49 => (getL fit47 b49)).bind fun other50 =>
  Res.ok ((((fPr (fCons D.str (fCons (fun d => d) (fOne (fun d => d))))) (("both" : Str), z1.1, other50.1)), z1.2.1, (z1.2.2.1 + other50.2.2.1), (decide ((z1.2.2.2.1 = true) ∧ (other50.2.2.2.1 = true))), ((1 : Int) + (max z1.2.2.2.2 other50.2.2.2.2))), past)
else
  (t_l_made_pairs cell z1.2.1).bind fun pairs51 =>
  (if (0 : Int) < ((pairs51.length : Nat) : Int) then ((((getL pairs51 (0 : Int)).bind fun a53 => .ok a53.2).bind fun a54 => .ok ((a54.length : Nat) : Int)).bind fun b56 => .ok (z1.2.1 + b56)).bind fun wide57 =>
  Res.ok wide57 else Res.ok z1.2.1 : Res (Int)).bind fun z52 =>
  (((((((getL past (-(1 : Int))).bind fun a58 => .ok a58.2.1).bind fun a65 => t_l_term cell (360 : Int) a65).bind fun a66 => .ok (a66, z1.1)).bind fun b69 => .ok (pairs51, b69)).bind fun b71 => .ok (("match" : Str), b71)).bind fun z => .ok ((fPr (fCons D.str (fCons (fTup (fPr (fCons D.int (fOne ans)))) (fCons (fun d => d) (fOne (fun d => d)))))) z)).bind fun view72 =>
  (((((t_l_most pairs51).bind fun b74 => (mulR z1.2.2.1 b74)).bind fun a75 => .ok (a75, z1.2.2.2.1, (z1.2.2.2.2 + (1 : Int)))).bind fun b78 => .ok (z52, b78)).bind fun b80 => .ok (view72, b80)).bind fun v => .ok (v, past)
theorem r_l_grown : CallRM [1] F_l_grown (qC eI (q1 (eL (eQ (qC eD (qC eI (qC eI (qC eB (q1 eI))))))))) (fun (a : Int × (List (D × Int × Int × Bool × Int))) => t_l_grown a.1 a.2) (eQ (qC eD (qC eI (qC eI (qC eB (q1 eI)))))) (q1 (eL (eQ (qC eD (qC eI (qC eI (qC eB (q1 eI)))))))) := by
  rintro ⟨cell, past⟩ _ ⟨d0, _, rfl, h0, ⟨d1, rfl, h1⟩⟩
  refine r_defM (n := 2) (m := 18) (k := 16) (bs := [1]) (ρ := ([some (sh eI cell), some (ow (eL (eQ (qC eD (qC eI (qC eI (qC eB (q1 eI))))))) past)] : KEnv)) (LeAM.sh h0 rfl (LeAM.ow h1 rfl LeAM.nil)) rfl ?_
  exact (j_do (d_asg (al := []) (ρs := fun z1 => ([some (sh eI cell), some (ow (eL (eQ (qC eD (qC eI (qC eI (qC eB (q1 eI))))))) past), some (sh eD z1.1), some (sh eI z1.2.1), some (sh eI z1.2.2.1), some (sh eB z1.2.2.2.1), some (sh eI z1.2.2.2.2), none, none, none, none, none, none, none, none, none, none, none] : KEnv)) (v_opp (o_ixL _ _) (v_o (E := (eL (eQ (qC eD (qC eI (qC eI (qC eB (q1 eI)))))))) (a := past) (i := 1) rfl) (v_neg (vN 1))) (fun z1 => (p_tp (ps_c' (p_nm (i := 2)) (ps_c' (p_nm (i := 3)) (ps_c' (p_nm (i := 4)) (ps_c' (p_nm (i := 5)) (ps_1 (p_nm (i := 6)))))))))) (fun z1 => (j_do (d_set (al := []) (c_l_mix (vq_cp (v_s (E := eI) (a := cell) (i := 0) rfl) (vq_1 (vN 310))))) (fun n2 => (j_go (g_set (al := []) (v_opp (o_modL _ (by decide)) (v_s (E := eI) (a := n2) (i := 7) rfl) (vN 7))) (j_go (g_set (al := []) (v_opp (o_divL _ (by decide) (by decide)) (v_s (E := eI) (a := n2) (i := 7) rfl) (vN 7))) (j_ifsP (al := []) (b_test (v_opp (o_lt _ _) (v_s (E := eI) (a := (n2 % (7 : Int))) (i := 8) rfl) (vN 2))) (j_assoc (j_retM (al := []) (v_tupQ (vq_c (v_mapF (f := (fPr (fCons D.str (fCons (fun d => d) (fOne (fun d => d)))))) (Fun.pr (FunQ.c Fun.str (FunQ.c Fun.raw (FunQ.one Fun.raw)))) (v_tupQ (vq_c (v_c (E := eS) (a := ("keep" : Str)) rfl) (vq_c (c_l_term (vq_cp (v_s (E := eI) (a := cell) (i := 0) rfl) (vq_cp (vN 360) (vq_1 (v_s (E := eI) (a := z1.2.1) (i := 3) rfl))))) (vq_1 (v_s (E := eD) (a := z1.1) (i := 2) rfl)))))) (vq_cp (v_s (E := eI) (a := z1.2.1) (i := 3) rfl) (vq_cp (v_s (E := eI) (a := z1.2.2.1) (i := 4) rfl) (vq_cp (v_s (E := eB) (a := z1.2.2.2.1) (i := 5) rfl) (vq_1 (v_opp (o_add _ _) (v_s (E := eI) (a := z1.2.2.2.2) (i := 6) rfl) (vN 1)))))))) (ow_1 rfl))) (j_skip (j_ifsP (al := []) (b_test (v_opp ((o_eq (EqE.int _)) _ _) (v_s (E := eI) (a := (n2 % (7 : Int))) (i := 8) rfl) (vN 2))) (j_assoc (j_do (d_set (al := []) (v_opp (o_add _ _) (vN 1) (v_opp (o_modL _ (by decide)) (v_opp (o_divL _ (by decide) (by decide)) (v_s (E := eI) (a := (n2 / (7 : Int))) (i := 7) rfl) (vN 3)) (vN 4)))) (fun fields9 => (j_assoc (j_go (g_setF (al := []) (v_lst (vl_nil (E := (eT eD))))) (j_assoc (j_do (d_for (al := []) (ρs := fun (s10 : ((List (List D)))) => ([some (sh eI cell), some (ow (eL (eQ (qC eD (qC eI (qC eI (qC eB (q1 eI))))))) past), some (sh eD z1.1), some (sh eI z1.2.1), some (sh eI z1.2.2.1), some (sh eB z1.2.2.2.1), some (sh eI z1.2.2.2.2), some (sh eI (n2 / (7 : Int))), some (sh eI (n2 % (7 : Int))), some (sh eI fields9), some (ow (eL (eT eD)) s10), none, none, none, none, none, none, none] : KEnv)) (ρb := fun j11 (s10 : ((List (List D)))) => ([some (sh eI cell), some (ow (eL (eQ (qC eD (qC eI (qC eI (qC eB (q1 eI))))))) past), some (sh eD z1.1), some (sh eI z1.2.1), some (sh eI z1.2.2.1), some (sh eB z1.2.2.2.1), some (sh eI z1.2.2.2.2), some (sh eI (n2 / (7 : Int))), some (sh eI (n2 % (7 : Int))), some (sh eI fields9), some (ow (eL (eT eD)) s10), some (sh eI j11), none, none, none, none, none, none] : KEnv)) (v_rng1p (v_opp (o_add _ _) (vN 1) (v_opp (o_modL _ (by decide)) (v_s (E := eI) (a := (n2 / (7 : Int))) (i := 7) rfl) (vN 3)))) (Sb.same (Sb.same (Sb.same (Sb.same (Sb.same (Sb.same (Sb.same (Sb.same (Sb.same (Sb.same (Sb.same (Sb.drop (Sb.drop (Sb.drop (Sb.drop (Sb.drop (Sb.drop (Sb.drop Sb.nil)))))))))))))))))) (fun j11 s10 => (p_nm (i := 11))) (fun j11 s10 => (j_do (d_app (al := []) rfl (v_1i o_tupL (v_comp (ρb := fun i13 => ([some (sh eI cell), some (ow (eL (eQ (qC eD (qC eI (qC eI (qC eB (q1 eI))))))) past), some (sh eD z1.1), some (sh eI z1.2.1), some (sh eI z1.2.2.1), some (sh eB z1.2.2.2.1), some (sh eI z1.2.2.2.2), some (sh eI (n2 / (7 : Int))), some (sh eI (n2 % (7 : Int))), some (sh eI fields9), some (ow (eL (eT eD)) s10), some (sh eI j11), some (sh eI i13), none, none, none, none, none] : KEnv)) (v_rng1p (v_s (E := eI) (a := fields9) (i := 9) rfl)) (fun i13 => (p_nm (i := 12))) (fun i13 => (v_eqr (r := (((mulR j11 j11).bind fun b15 => .ok (cell + b15)).bind fun a20 => (((mulR (7 : Int) i13).bind fun b17 => .ok ((370 : Int) + b17)).bind fun a18 => .ok (a18, z1.2.1)).bind fun b21 => .ok (a20, b21)).bind fun a => t_l_term a.1 a.2.1 a.2.2) (m_l_term (vq_c (v_op o_add (v_s (E := eI) (a := cell) (i := 0) rfl) (v_opp (o_mul _ _) (v_s (E := eI) (a := j11) (i := 11) rfl) (v_s (E := eI) (a := j11) (i := 11) rfl))) (vq_c (v_op o_add (vN 370) (v_opp (o_mul _ _) (vN 7) (v_s (E := eI) (a := i13) (i := 12) rfl))) (vq_1 (v_s (E := eI) (a := z1.2.1) (i := 3) rfl))))) (by first | (simp only [Res.assoc, Res.bind_ok]; done) | (simp only [Res.assoc, Res.bind_ok]; rfl))))))) (fun lists12 => (j_endB (Sb.same (Sb.same (Sb.same (Sb.same (Sb.same (Sb.same (Sb.same (Sb.same (Sb.same (Sb.same (Sb.same (Sb.drop (Sb.drop (Sb.drop (Sb.drop (Sb.drop (Sb.drop (Sb.drop Sb.nil))))))))))))))))))))))) (fun s10 => (j_assoc (j_retM (al := []) (v_tupQ (vq_c (v_castF (f := (fPr (fCons D.str (fCons (fTup (fTup (fun d => d))) (fOne (fun d => d)))))) (Fun.pr (FunQ.c Fun.str (FunQ.c (Fun.tup (Fun.tup Fun.raw)) (FunQ.one Fun.raw)))) (v_tupQ (vq_cp (v_c (E := eS) (a := ("rows" : Str)) rfl) (vq_cp (v_1p (o_tupL _) (v_o (E := (eL (eT eD))) (a := s10) (i := 10) rfl)) (vq_1 (v_s (E := eD) (a := z1.1) (i := 2) rfl)))))) (vq_c (v_s (E := eI) (a := fields9) (i := 9) rfl) (vq_c (v_opp (o_mul _ _) (v_s (E := eI) (a := z1.2.2.1) (i := 4) rfl) (v_1p (o_lenL _) (v_o (E := (eL (eT eD))) (a := s10) (i := 10) rfl))) (vq_cp (v_s (E := eB) (a := z1.2.2.2.1) (i := 5) rfl) (vq_1 (v_opp (o_add _ _) (v_s (E := eI) (a := z1.2.2.2.2) (i := 6) rfl) (vN 1)))))))) (ow_1 rfl))))))))))) (j_skip (j_ifsP (al := []) (b_test (v_opp ((o_eq (EqE.int _)) _ _) (v_s (E := eI) (a := (n2 % (7 : Int))) (i := 8) rfl) (vN 3))) (j_assoc (j_retM (al := []) (v_tupQ (vq_cp (v_castF (f := (fPr (fCons D.str (fOne (fun d => d))))) (Fun.pr (FunQ.c Fun.str (FunQ.one Fun.raw))) (v_tupQ (vq_cp (v_c (E := eS) (a := ("unlike" : Str)) rfl) (vq_1 (v_s (E := eD) (a := z1.1) (i := 2) rfl))))) (vq_cp (v_s (E := eI) (a := z1.2.1) (i := 3) rfl) (vq_cp (v_s (E := eI) (a := z1.2.2.1) (i := 4) rfl) (vq_cp (v_s (E := eB) (a := z1.2.2.2.1) (i := 5) rfl) (vq_1 (v_opp (o_add _ _) (v_s (E := eI) (a := z1.2.2.2.2) (i := 6) rfl) (vN 1)))))))) (ow_1 rfl))) (j_skip (j_ifsP (al := []) (b_test (v_opp ((o_eq (EqE.int _)) _ _) (v_s (E := eI) (a := (n2 % (7 : Int))) (i := 8) rfl) (vN 4))) (j_assoc (j_do (d_set (al := []) (v_opp (o_ixAL _ _) (v_lst (vl_cp (vN 1) (vl_cp (vN 2) (vl_cp (vN 3) (vl_cp (vN 1) (vl_cp (v_opp (o_add _ _) (vN 1) (v_opp (o_modL _ (by decide)) (v_opp (o_divL _ (by decide) (by decide)) (v_s (E := eI) (a := (n2 / (7 : Int))) (i := 7) rfl) (vN 5)) (vN 40))) vl_nil)))))) (v_opp (o_modL _ (by decide)) (v_s (E := eI) (a := (n2 / (7 : Int))) (i := 7) rfl) (vN 5)))) (fun many35 => (j_assoc (j_retM (al := []) (v_tupQ (vq_c (v_mapF (f := (fPr (fCons D.str (fCons (fun d => d) (fCons D.int (fOne (fun d => d))))))) (Fun.pr (FunQ.c Fun.str (FunQ.c Fun.raw (FunQ.c Fun.int (FunQ.one Fun.raw))))) (v_tupQ (vq_c (v_c (E := eS) (a := ("cap" : Str)) rfl) (vq_c (c_l_term (vq_cp (v_s (E := eI) (a := cell) (i := 0) rfl) (vq_cp (vN 360) (vq_1 (v_s (E := eI) (a := z1.2.1) (i := 3) rfl))))) (vq_cp (v_s (E := eI) (a := many35) (i := 13) rfl) (vq_1 (v_s (E := eD) (a := z1.1) (i := 2) rfl))))))) (vq_c (v_s (E := eI) (a := z1.2.1) (i := 3) rfl) (vq_c (v_opp (o_mul _ _) (v_s (E := eI) (a := z1.2.2.1) (i := 4) rfl) (vN 2)) (vq_cp (v_c (E := eB) (a := false) rfl) (vq_1 (v_opp (o_add _ _) (v_s (E := eI) (a := z1.2.2.2.2) (i := 6) rfl) (vN 1)))))))) (ow_1 rfl)))))) (j_skip (j_ifsP (al := []) (b_test (v_opp ((o_eq (EqE.int _)) _ _) (v_s (E := eI) (a := (n2 % (7 : Int))) (i := 8) rfl) (vN 5))) (j_assoc (j_do (d_set (al := []) (v_compFP (ρb := fun one46 => ([some (sh eI cell), some (ow (eL (eQ (qC eD (qC eI (qC eI (qC eB (q1 eI))))))) past), some (sh eD z1.1), some (sh eI z1.2.1), some (sh eI z1.2.2.1), some (sh eB z1.2.2.2.1), some (sh eI z1.2.2.2.2), some (sh eI (n2 / (7 : Int))), some (sh eI (n2 % (7 : Int))), none, none, none, none, none, none, some (sh (eQ (qC eD (qC eI (qC eI (qC eB (q1 eI)))))) one46), none, none] : KEnv)) (v_seqL (v_o (E := (eL (eQ (qC eD (qC eI (qC eI (qC eB (q1 eI)))))))) (a := past) (i := 1) rfl)) (fun one46 => (p_nm (i := 15))) (fun one46 => (b_test (v_opp ((o_eq (EqE.int _)) _ _) (v_opp ((o_ixQ (k := 1) (IxQ.s IxQ.z)) _) (v_s (E := (eQ (qC eD (qC eI (qC eI (qC eB (q1 eI))))))) (a := one46) (i := 15) rfl) (vN 1)) (v_s (E := eI) (a := z1.2.1) (i := 3) rfl)))) (fun one46 => (v_s (E := (eQ (qC eD (qC eI (qC eI (qC eB (q1 eI))))))) (a := one46) (i := 15) rfl)))) (fun fit47 => (j_assoc (j_do (d_set (al := []) (v_op o_ixAL (v_s (E := (eL (eQ (qC eD (qC eI (qC eI (qC eB (q1 eI)))))))) (a := fit47) (i := 14) rfl) (v_opp (o_mod _ _) (v_s (E := eI) (a := (n2 / (7 : Int))) (i := 7) rfl) (v_1p (o_lenL _) (v_s (E := (eL (eQ (qC eD (qC eI (qC eI (qC eB (q1 eI)))))))) (a := fit47) (i := 14) rfl))))) (fun other50 => (j_assoc (j_retM (al := []) (v_tupQ (vq_cp (v_castF (f := (fPr (fCons D.str (fCons (fun d => d) (fOne (fun d => d)))))) (Fun.pr (FunQ.c Fun.str (FunQ.c Fun.raw (FunQ.one Fun.raw)))) (v_tupQ (vq_cp (v_c (E := eS) (a := ("both" : Str)) rfl) (vq_cp (v_s (E := eD) (a := z1.1) (i := 2) rfl) (vq_1 (v_opp ((o_ixQ (k := 0) IxQ.z) _) (v_s (E := (eQ (qC eD (qC eI (qC eI (qC eB (q1 eI))))))) (a := other50) (i := 16) rfl) (vN 0))))))) (vq_cp (v_s (E := eI) (a := z1.2.1) (i := 3) rfl) (vq_cp (v_opp (o_add _ _) (v_s (E := eI) (a := z1.2.2.1) (i := 4) rfl) (v_opp ((o_ixQ (k := 2) (IxQ.s (IxQ.s IxQ.z))) _) (v_s (E := (eQ (qC eD (qC eI (qC eI (qC eB (q1 eI))))))) (a := other50) (i := 16) rfl) (vN 2))) (vq_cp (v_andP (v_P (v_s (E := eB) (a := z1.2.2.2.1) (i := 5) rfl)) (v_P (v_opp ((o_ixQ (k := 3) (IxQ.s (IxQ.s (IxQ.s IxQ.z)))) _) (v_s (E := (eQ (qC eD (qC eI (qC eI (qC eB (q1 eI))))))) (a := other50) (i := 16) rfl) (vN 3)))) (vq_1 (v_opp (o_add _ _) (vN 1) (v_opp (o_max _ _) (v_s (E := eI) (a := z1.2.2.2.2) (i := 6) rfl) (v_opp ((o_ixQ (k := 4) (IxQ.s (IxQ.s (IxQ.s (IxQ.s IxQ.l))))) _) (v_s (E := (eQ (qC eD (qC eI (qC eI (qC eB (q1 eI))))))) (a := other50) (i := 16) rfl) (vN 4)))))))))) (ow_1 rfl))))))))) (j_skip (j_do (d_set (al := []) (c_l_made_pairs (vq_cp (v_s (E := eI) (a := cell) (i := 0) rfl) (vq_1 (v_s (E := eI) (a := z1.2.1) (i := 3) rfl))))) (fun pairs51 => (j_do (j_ifP (P := PN fun (z52 : (Int)) => ([some (sh eI cell), some (ow (eL (eQ (qC eD (qC eI (qC eI (qC eB (q1 eI))))))) past), some (sh eD z1.1), some (sh eI z52), some (sh eI z1.2.2.1), some (sh eB z1.2.2.2.1), some (sh eI z1.2.2.2.2), some (sh eI (n2 / (7 : Int))), some (sh eI (n2 % (7 : Int))), none, none, none, none, none, none, none, none, some (sh (eT (eQ (qC eI (q1 eR)))) pairs51)] : KEnv)) (al := []) (b_test (v_opp (o_gt _ _) (v_1p (o_lenT _) (v_s (E := (eT (eQ (qC eI (q1 eR))))) (a := pairs51) (i := 17) rfl)) (vN 0))) (j_do (d_set (al := []) (v_op o_add (v_s (E := eI) (a := z1.2.1) (i := 3) rfl) (v_1 o_lenR (v_opl (o_ixQ (k := 1) (IxQ.s IxQ.l)) (v_opp (o_ixT _ _) (v_s (E := (eT (eQ (qC eI (q1 eR))))) (a := pairs51) (i := 17) rfl) (vN 0)) (vN 1))))) (fun wide57 => (j_end (Sb.same (Sb.same (Sb.same (Sb.same (Sb.same (Sb.same (Sb.same (Sb.same (Sb.same (Sb.drop (Sb.drop (Sb.drop (Sb.drop (Sb.drop (Sb.drop (Sb.drop (Sb.drop (Sb.same Sb.nil))))))))))))))))))))) (j_end (Sb.same (Sb.same (Sb.same (Sb.same (Sb.same (Sb.same (Sb.same (Sb.same (Sb.same (Sb.drop (Sb.drop (Sb.drop (Sb.drop (Sb.drop (Sb.drop (Sb.drop (Sb.drop (Sb.same Sb.nil)))))))))))))))))))) (fun z52 => (j_do (d_set (al := []) (v_mapF (f := (fPr (fCons D.str (fCons (fTup (fPr (fCons D.int (fOne ans)))) (fCons (fun d => d) (fOne (fun d => d))))))) (Fun.pr (FunQ.c Fun.str (FunQ.c (Fun.tup (Fun.pr (FunQ.c Fun.int (FunQ.one Fun.row)))) (FunQ.c Fun.raw (FunQ.one Fun.raw))))) (v_tupQ (vq_c (v_c (E := eS) (a := ("match" : Str)) rfl) (vq_c (v_s (E := (eT (eQ (qC eI (q1 eR))))) (a := pairs51) (i := 17) rfl) (vq_c (v_eqr (r := ((((getL past (-(1 : Int))).bind fun a58 => .ok a58.2.1).bind fun b60 => .ok ((360 : Int), b60)).bind fun b62 => .ok (cell, b62)).bind fun a => t_l_term a.1 a.2.1 a.2.2) (m_l_term (vq_c (v_s (E := eI) (a := cell) (i := 0) rfl) (vq_c (vN 360) (vq_1 (v_opl (o_ixQ (k := 1) (IxQ.s IxQ.z)) (v_opp (o_ixL _ _) (v_o (E := (eL (eQ (qC eD (qC eI (qC eI (qC eB (q1 eI)))))))) (a := past) (i := 1) rfl) (v_neg (vN 1))) (vN 1)))))) (by first | (simp only [Res.assoc, Res.bind_ok]; done) | (simp only [Res.assoc, Res.bind_ok]; rfl))) (vq_1 (v_s (E := eD) (a := z1.1) (i := 2) rfl)))))))) (fun view72 => (j_retM (al := []) (v_tupQ (vq_c (v_s (E := eD) (a := view72) (i := 2) rfl) (vq_c (v_s (E := eI) (a := z52) (i := 3) rfl) (vq_c (v_op o_mul (v_s (E := eI) (a := z1.2.2.1) (i := 4) rfl) (c_l_most (vq_1 (v_s (E := (eT (eQ (qC eI (q1 eR))))) (a := pairs51) (i := 17) rfl)))) (vq_cp (v_s (E := eB) (a := z1.2.2.2.1) (i := 5) rfl) (vq_1 (v_opp (o_add _ _) (v_s (E := eI) (a := z1.2.2.2.2) (i := 6) rfl) (vN 1)))))))) (ow_1 rfl))))))))))))))))))))))))
noncomputable def t_l_views (cells : (List Int)) (width : Int) : Res (List (D × Int × Int × Bool × Int)) :=
  (Res.ok [(((fPr (fOne D.str)) ("all" : Str)), width, (1 : Int), true, (1 : Int))]).bind fun past1 =>
  (forR cells past1 (fun cell3 s2 =>
  (t_l_grown cell3 s2).bind fun w4 =>
  (if ((w4.1.2.2.1 ≤ (64 : Int)) ∧ (w4.1.2.2.2.2 ≤ (6 : Int))) then (appR w4.2 w4.1).bind fun past6 =>
  Res.ok past6 else Res.ok w4.2 : Res ((List (D × Int × Int × Bool × Int)))).bind fun z5 =>
  Res.ok z5) : Res ((List (D × Int × Int × Bool × Int)))).bind fun s2 =>
  Res.ok s2
theorem r_l_views : CallR F_l_views (qC (eL eI) (q1 eI)) (fun (a : (List Int) × Int) => t_l_views a.1 a.2) (eL (eQ (qC eD (qC eI (qC eI (qC eB (q1 eI))))))) := by
  rintro ⟨cells, width⟩ _ ⟨d0, _, rfl, h0, ⟨d1, rfl, h1⟩⟩
  refine r_def (n := 2) (m := 5) (k := 3) (ρ := ([some (sh (eL eI) cells), some (sh eI width)] : KEnv)) (LeA.cons h0 (LeA.cons h1 LeA.nil)) rfl ?_
  exact (j_do (d_setF (al := []) (v_lst (vl_cp (v_tupQ (vq_cp (v_castF (f := (fPr (fOne D.str))) (Fun.pr (FunQ.one Fun.str)) (v_tupQ (vq_1 (v_c (E := eS) (a := ("all" : Str)) rfl)))) (vq_cp (v_s (E := eI) (a := width) (i := 1) rfl) (vq_cp (vN 1) (vq_cp (v_c (E := eB) (a := true) rfl) (vq_1 (vN 1))))))) vl_nil))) (fun past1 => (j_do (d_forP (al := []) (ρs := fun (s2 : ((List (D × Int × Int × Bool × Int)))) => ([some (sh (eL eI) cells), some (sh eI width), some (ow (eL (eQ (qC eD (qC eI (qC eI (qC eB (q1 eI))))))) s2), none, none] : KEnv)) (ρb := fun cell3 (s2 : ((List (D × Int × Int × Bool × Int)))) => ([some (sh (eL eI) cells), some (sh eI width), some (ow (eL (eQ (qC eD (qC eI (qC eI (qC eB (q1 eI))))))) s2), some (sh eI cell3), none] : KEnv)) (v_seqL (v_s (E := (eL eI)) (a := cells) (i := 0) rfl)) (Sb.same (Sb.same (Sb.same (Sb.drop (Sb.drop Sb.nil))))) (fun cell3 s2 => (p_nm (i := 3))) (fun cell3 s2 => (j_do (ρs := fun (w4 : (D × Int × Int × Bool × Int) × (List (D × Int × Int × Bool × Int))) => ([some (sh (eL eI) cells), some (sh eI width), some (ow (eL (eQ (qC eD (qC eI (qC eI (qC eB (q1 eI))))))) w4.2), some (sh eI cell3), some (sh (eQ (qC eD (qC eI (qC eI (qC eB (q1 eI)))))) w4.1)] : KEnv)) (d_setM (al := []) (t := fun (a : Int × (List (D × Int × Int × Bool × Int))) => t_l_grown a.1 a.2) (ks := [.v, .o 2]) (i := 4) (ρs := fun (z : (List (D × Int × Int × Bool × Int))) => ([some (sh (eL eI) cells), some (sh eI width), some (ow (eL (eQ (qC eD (qC eI (qC eI (qC eB (q1 eI))))))) z), some (sh eI cell3), none] : KEnv)) (r := ((Res.ok cell3)).bind fun x0 => (Res.ok s2).bind fun y0 => .ok (x0, y0)) r_l_grown (em_v (v_s (E := eI) (a := cell3) (i := 3) rfl) (em_o1 (x := s2) rfl rfl)) rfl (by decide) (gv_v (gv_o1 rfl))) (fun w4 => (j_do (j_ifP (P := PN fun (z5 : ((List (D × Int × Int × Bool × Int)))) => ([some (sh (eL eI) cells), some (sh eI width), some (ow (eL (eQ (qC eD (qC eI (qC eI (qC eB (q1 eI))))))) z5), some (sh eI cell3), some (sh (eQ (qC eD (qC eI (qC eI (qC eB (q1 eI)))))) w4.1)] : KEnv)) (al := []) (b_andP (b_test (v_opp (o_le _ _) (v_opp ((o_ixQ (k := 2) (IxQ.s (IxQ.s IxQ.z))) _) (v_s (E := (eQ (qC eD (qC eI (qC eI (qC eB (q1 eI))))))) (a := w4.1) (i := 4) rfl) (vN 2)) (vN 64))) (b_test (v_opp (o_le _ _) (v_opp ((o_ixQ (k := 4) (IxQ.s (IxQ.s (IxQ.s (IxQ.s IxQ.l))))) _) (v_s (E := (eQ (qC eD (qC eI (qC eI (qC eB (q1 eI))))))) (a := w4.1) (i := 4) rfl) (vN 4)) (vN 6)))) (j_do (d_appP (al := []) rfl (v_s (E := (eQ (qC eD (qC eI (qC eI (qC eB (q1 eI))))))) (a := w4.1) (i := 4) rfl)) (fun past6 => (j_end (Sb.same (Sb.same (Sb.same (Sb.same (Sb.same Sb.nil)))))))) (j_end (Sb.same (Sb.same (Sb.same (Sb.same (Sb.same Sb.nil))))))) (fun z5 => (j_endB (Sb.same (Sb.same (Sb.same (Sb.drop (Sb.drop Sb.nil)))))))))))) (fun s2 => (j_retT (v_o (E := (eL (eQ (qC eD (qC eI (qC eI (qC eB (q1 eI)))))))) (a := s2) (i := 2) rfl))))))
theorem c_l_views {ρ : KEnv} {fs : DL.Env → Res (List D)} {x0 : (List Int)} {x1 : Int} (h : EvR ρ fs (.ok (x0, x1)) (qC (eL eI) (q1 eI))) : EvR ρ (eCall F_l_views fs) (t_l_views x0 x1) (eL (eQ (qC eD (qC eI (qC eI (qC eB (q1 eI))))))) := v_callp (t := fun a : (List Int) × Int => t_l_views a.1 a.2) (a := (x0, x1)) r_l_views h
theorem m_l_views {ρ : KEnv} {fs : DL.Env → Res (List D)} {r : Res ((List Int) × Int)} (h : EvR ρ fs r (qC (eL eI) (q1 eI))) : EvR ρ (eCall F_l_views fs) (r.bind fun a => t_l_views a.1 a.2) (eL (eQ (qC eD (qC eI (qC eI (qC eB (q1 eI))))))) := v_call (t := fun a : (List Int) × Int => t_l_views a.1 a.2) r_l_views h
noncomputable def t_inner_views (view : D) : Res (List D) :=
  ((dIx view (D.int (0 : Int))).bind fun a1 => (rawB (dEq a1 (D.str ("all" : Str))))).bind fun z => if z = true then
  Res.ok ([] : List D)
else
  ((dIx view (D.int (0 : Int))).bind fun a3 => (rawB (dEq a3 (D.str ("both" : Str))))).bind fun z => if z = true then
  ((dIx view (D.int (1 : Int))).bind fun a7 => ((dIx view (D.int (2 : Int))).bind fun a5 => .ok (a5 :: [])).bind fun b8 => .ok (a7 :: b8))
else
  ((dIx view (D.int (-(1 : Int)))).bind fun a9 => .ok (a9 :: []))
theorem r_inner_views : CallR F_inner_views (q1 eD) (fun (a : D) => t_inner_views a) (eL eD) := by
  rintro view _ ⟨d0, rfl, h0⟩
  refine r_def (n := 1) (m := 1) (k := 0) (ρ := ([some (sh eD view)] : KEnv)) (LeA.cons h0 LeA.nil) rfl ?_
  exact (j_ifs (al := []) (b_test (v_op (o_rawB dEq) (v_opp ((o_raw dIx) _ _) (v_s (E := eD) (a := view) (i := 0) rfl) (vI 0)) (vT ("all" : Str)))) (j_assoc (j_retT (v_lst (vl_nil (E := eD))))) (j_skip (j_ifs (al := []) (b_test (v_op (o_rawB dEq) (v_opp ((o_raw dIx) _ _) (v_s (E := eD) (a := view) (i := 0) rfl) (vI 0)) (vT ("both" : Str)))) (j_assoc (j_retT (v_lst (vl_c (v_opp ((o_raw dIx) _ _) (v_s (E := eD) (a := view) (i := 0) rfl) (vI 1)) (vl_c (v_opp ((o_raw dIx) _ _) (v_s (E := eD) (a := view) (i := 0) rfl) (vI 2)) vl_nil))))) (j_skip (j_retT (v_lst (vl_c (v_opp ((o_raw dIx) _ _) (v_s (E := eD) (a := view) (i := 0) rfl) (v_castF (f := D.int) Fun.int (v_neg (vN 1)))) vl_nil)))))))
theorem c_inner_views {ρ : KEnv} {fs : DL.Env → Res (List D)} {x0 : D} (h : EvR ρ fs (.ok x0) (q1 eD)) : EvR ρ (eCall F_inner_views fs) (t_inner_views x0) (eL eD) := v_callp (t := fun a : D => t_inner_views a) (a := x0) r_inner_views h
theorem m_inner_views {ρ : KEnv} {fs : DL.Env → Res (List D)} {r : Res (D)} (h : EvR ρ fs r (q1 eD)) : EvR ρ (eCall F_inner_views fs) (r.bind fun a => t_inner_views a) (eL eD) := v_call (t := fun a : D => t_inner_views a) r_inner_views h
noncomputable def t_all_alike (numbers : D) : Res Bool :=
  (((dLenSet numbers).bind D.asI).bind fun a1 => .ok (decide (a1 ≤ (1 : Int))))
theorem r_all_alike : CallR F_all_alike (q1 eD) (fun (a : D) => t_all_alike a) eB := by
  rintro numbers _ ⟨d0, rfl, h0⟩
  refine r_def (n := 1) (m := 1) (k := 0) (ρ := ([some (sh eD numbers)] : KEnv)) (LeA.cons h0 LeA.nil) rfl ?_
  exact (j_retT (v_op o_le (v_asI (v_1p ((o_raw1 dLenSet) _) (v_s (E := eD) (a := numbers) (i := 0) rfl))) (vN 1)))
theorem c_all_alike {ρ : KEnv} {fs : DL.Env → Res (List D)} {x0 : D} (h : EvR ρ fs (.ok x0) (q1 eD)) : EvR ρ (eCall F_all_alike fs) (t_all_alike x0) eB := v_callp (t := fun a : D => t_all_alike a) (a := x0) r_all_alike h
theorem m_all_alike {ρ : KEnv} {fs : DL.Env → Res (List D)} {r : Res (D)} (h : EvR ρ fs r (q1 eD)) : EvR ρ (eCall F_all_alike fs) (r.bind fun a => t_all_alike a) eB := v_call (t := fun a : D => t_all_alike a) r_all_alike h
noncomputable def t_own_terms (view : D) : Res (List D) :=
  (dIx view (D.int (0 : Int))).bind fun kind1 =>
  ((rawB (dEq kind1 (D.str ("keep" : Str)))).bind fun z => if z = true then .ok true else (rawB (dEq kind1 (D.str ("cap" : Str))))).bind fun z => if z = true then
  ((dIx view (D.int (1 : Int))).bind fun a2 => .ok (a2 :: []))
else
  (rawB (dEq kind1 (D.str ("match" : Str)))).bind fun z => if z = true then
  ((dIx view (D.int (2 : Int))).bind fun a4 => .ok (a4 :: []))
else
  ((rawB (dEq kind1 (D.str ("rows" : Str)))).bind fun z => if z = true then (((dIx view (D.int (1 : Int))).bind D.asItems).bind fun l11 => forR l11 ([] : List D) (fun some_8 s7 =>
  ((D.asT some_8).bind fun a10 => catR s7 a10).bind fun terms9 =>
  Res.ok terms9) : Res ((List D))).bind fun s7 =>
  Res.ok s7 else Res.ok ([] : List D) : Res ((List D))).bind fun z6 =>
  Res.ok z6
theorem r_own_terms : CallR F_own_terms (q1 eD) (fun (a : D) => t_own_terms a) (eL eD) := by
  rintro view _ ⟨d0, rfl, h0⟩
  refine r_def (n := 1) (m := 4) (k := 3) (ρ := ([some (sh eD view)] : KEnv)) (LeA.cons h0 LeA.nil) rfl ?_
  exact (j_do (d_set (al := []) (v_opp ((o_raw dIx) _ _) (v_s (E := eD) (a := view) (i := 0) rfl) (vI 0))) (fun kind1 => (j_ifs (al := []) (b_or (b_test (v_opp ((o_rawB dEq) _ _) (v_s (E := eD) (a := kind1) (i := 1) rfl) (vT ("keep" : Str)))) (b_test (v_opp ((o_rawB dEq) _ _) (v_s (E := eD) (a := kind1) (i := 1) rfl) (vT ("cap" : Str))))) (j_assoc (j_retT (v_lst (vl_c (v_opp ((o_raw dIx) _ _) (v_s (E := eD) (a := view) (i := 0) rfl) (vI 1)) vl_nil)))) (j_skip (j_ifs (al := []) (b_test (v_opp ((o_rawB dEq) _ _) (v_s (E := eD) (a := kind1) (i := 1) rfl) (vT ("match" : Str)))) (j_assoc (j_retT (v_lst (vl_c (v_opp ((o_raw dIx) _ _) (v_s (E := eD) (a := view) (i := 0) rfl) (vI 2)) vl_nil)))) (j_skip (j_go (g_setF (al := []) (v_lst (vl_nil (E := eD)))) (j_do (j_if (P := PN fun (z6 : ((List D))) => ([some (sh eD view), some (sh eD kind1), some (ow (eL eD) z6), none] : KEnv)) (al := []) (b_test (v_opp ((o_rawB dEq) _ _) (v_s (E := eD) (a := kind1) (i := 1) rfl) (vT ("rows" : Str)))) (j_do (d_for (al := []) (ρs := fun (s7 : ((List D))) => ([some (sh eD view), some (sh eD kind1), some (ow (eL eD) s7), none] : KEnv)) (ρb := fun some_8 (s7 : ((List D))) => ([some (sh eD view), some (sh eD kind1), some (ow (eL eD) s7), some (sh eD some_8)] : KEnv)) (v_seqD (v_opp ((o_raw dIx) _ _) (v_s (E := eD) (a := view) (i := 0) rfl) (vI 1))) (Sb.same (Sb.same (Sb.same (Sb.drop Sb.nil)))) (fun some_8 s7 => (p_nm (i := 3))) (fun some_8 s7 => (j_do (d_extT (al := []) rfl (v_asT (v_s (E := eD) (a := some_8) (i := 3) rfl))) (fun terms9 => (j_endB (Sb.same (Sb.same (Sb.same (Sb.drop Sb.nil))))))))) (fun s7 => (j_end (Sb.same (Sb.same (Sb.same (Sb.drop Sb.nil))))))) (j_end (Sb.same (Sb.same (Sb.same (Sb.drop Sb.nil)))))) (fun z6 => (j_retT (v_o (E := (eL eD)) (a := z6) (i := 2) rfl)))))))))))
theorem c_own_terms {ρ : KEnv} {fs : DL.Env → Res (List D)} {x0 : D} (h : EvR ρ fs (.ok x0) (q1 eD)) : EvR ρ (eCall F_own_terms fs) (t_own_terms x0) (eL eD) := v_callp (t := fun a : D => t_own_terms a) (a := x0) r_own_terms h
theorem m_own_terms {ρ : KEnv} {fs : DL.Env → Res (List D)} {r : Res (D)} (h : EvR ρ fs r (q1 eD)) : EvR ρ (eCall F_own_terms fs) (r.bind fun a => t_own_terms a) (eL eD) := v_call (t := fun a : D => t_own_terms a) r_own_terms h
noncomputable def t_is_leaf (term : D) : Res Bool :=
  (((dIx term (D.int (0 : Int))).bind fun a1 => (rawB (dEq a1 (D.str ("num" : Str))))).bind fun z => if z = true then .ok true else (((dIx term (D.int (0 : Int))).bind fun a3 => (rawB (dEq a3 (D.str ("field" : Str))))).bind fun z => if z = true then .ok true else ((dIx term (D.int (0 : Int))).bind fun a5 => (rawB (dEq a5 (D.str ("name" : Str)))))))
theorem r_is_leaf : CallR F_is_leaf (q1 eD) (fun (a : D) => t_is_leaf a) eB := by
  rintro term _ ⟨d0, rfl, h0⟩
  refine r_def (n := 1) (m := 1) (k := 0) (ρ := ([some (sh eD term)] : KEnv)) (LeA.cons h0 LeA.nil) rfl ?_
  exact (j_retT (v_or (v_op (o_rawB dEq) (v_opp ((o_raw dIx) _ _) (v_s (E := eD) (a := term) (i := 0) rfl) (vI 0)) (vT ("num" : Str))) (v_or (v_op (o_rawB dEq) (v_opp ((o_raw dIx) _ _) (v_s (E := eD) (a := term) (i := 0) rfl) (vI 0)) (vT ("field" : Str))) (v_op (o_rawB dEq) (v_opp ((o_raw dIx) _ _) (v_s (E := eD) (a := term) (i := 0) rfl) (vI 0)) (vT ("name" : Str))))))
theorem c_is_leaf {ρ : KEnv} {fs : DL.Env → Res (List D)} {x0 : D} (h : EvR ρ fs (.ok x0) (q1 eD)) : EvR ρ (eCall F_is_leaf fs) (t_is_leaf x0) eB := v_callp (t := fun a : D => t_is_leaf a) (a := x0) r_is_leaf h
theorem m_is_leaf {ρ : KEnv} {fs : DL.Env → Res (List D)} {r : Res (D)} (h : EvR ρ fs r (q1 eD)) : EvR ρ (eCall F_is_leaf fs) (r.bind fun a => t_is_leaf a) eB := v_call (t := fun a : D => t_is_leaf a) r_is_leaf h
noncomputable def tb_gathered (G : D → Str → Res (List D)) (term : D) (kind : Str) : Res (List D) :=
  (t_is_leaf term).bind fun z => if z = true then
  ((dIx term (D.int (0 : Int))).bind fun a1 => (rawB (dEq a1 (D.str kind)))).bind fun z => if z = true then
  ((dIx term (D.int (1 : Int))).bind fun a3 => .ok (a3 :: []))
else
  Res.ok ([] : List D)
else
  (((dCut (some (1 : Int)) none term).bind D.asItems).bind fun l9 => forR l9 ([] : List D) (fun part6 s5 =>
  ((G part6 kind).bind fun a8 => catR s5 a8).bind fun found7 =>
  Res.ok found7) : Res ((List D))).bind fun s5 =>
  Res.ok s5
noncomputable def u_gathered : Nat → D → Str → Res (List D)
  | 0 => fun _ _ => .bad
  | j + 1 => tb_gathered (u_gathered j)
noncomputable def t_gathered : D → Str → Res (List D) := u_gathered 12
theorem rb_gathered {GF : List D → Res D} {G : D → Str → Res (List D)} (r_G : CallR GF (qC eD (q1 eS)) (fun (a : D × Str) => G a.1 a.2) (eL eD)) : CallR (runDef 2 4 (b_gathered GF)) (qC eD (q1 eS)) (fun (a : D × Str) => tb_gathered G a.1 a.2) (eL eD) := by
  have c_G : ∀ {ρ : KEnv} {fs : DL.Env → Res (List D)} {x0 : D} {x1 : Str}, EvR ρ fs (.ok (x0, x1)) (qC eD (q1 eS)) → EvR ρ (eCall GF fs) (G x0 x1) (eL eD) := fun {ρ fs x0 x1} h => v_callp (t := fun a : D × Str => G a.1 a.2) (a := (x0, x1)) r_G h
  have m_G : ∀ {ρ : KEnv} {fs : DL.Env → Res (List D)} {r : Res (D × Str)}, EvR ρ fs r (qC eD (q1 eS)) → EvR ρ (eCall GF fs) (r.bind fun a => G a.1 a.2) (eL eD) := fun h => v_call (t := fun a : D × Str => G a.1 a.2) r_G h
  rintro ⟨term, kind⟩ _ ⟨d0, _, rfl, h0, ⟨d1, rfl, h1⟩⟩
  refine r_def (n := 2) (m := 4) (k := 2) (ρ := ([some (sh eD term), some (sh eS kind)] : KEnv)) (LeA.cons h0 (LeA.cons h1 LeA.nil)) rfl ?_
  exact (j_ifs (al := []) (b_truB (c_is_leaf (vq_1 (v_s (E := eD) (a := term) (i := 0) rfl)))) (j_assoc (j_ifs (al := []) (b_test (v_op (o_rawB dEq) (v_opp ((o_raw dIx) _ _) (v_s (E := eD) (a := term) (i := 0) rfl) (vI 0)) (v_castF (f := D.str) Fun.str (v_s (E := eS) (a := kind) (i := 1) rfl)))) (j_assoc (j_retT (v_lst (vl_c (v_opp ((o_raw dIx) _ _) (v_s (E := eD) (a := term) (i := 0) rfl) (vI 1)) vl_nil)))) (j_skip (j_assoc (j_retT (v_lst (vl_nil (E := eD)))))))) (j_skip (j_go (g_setF (al := []) (v_lst (vl_nil (E := eD)))) (j_do (d_for (al := []) (ρs := fun (s5 : ((List D))) => ([some (sh eD term), some (sh eS kind), some (ow (eL eD) s5), none] : KEnv)) (ρb := fun part6 (s5 : ((List D))) => ([some (sh eD term), some (sh eS kind), some (ow (eL eD) s5), some (sh eD part6)] : KEnv)) (v_seqD (v_cutD (v_s (E := eD) (a := term) (i := 0) rfl) (vo_s (vN 1)) vo_n)) (Sb.same (Sb.same (Sb.same (Sb.drop Sb.nil)))) (fun part6 s5 => (p_nm (i := 3))) (fun part6 s5 => (j_do (d_extL (al := []) rfl (c_G (vq_cp (v_s (E := eD) (a := part6) (i := 3) rfl) (vq_1 (v_s (E := eS) (a := kind) (i := 1) rfl))))) (fun found7 => (j_endB (Sb.same (Sb.same (Sb.same (Sb.drop Sb.nil))))))))) (fun s5 => (j_retT (v_o (E := (eL eD)) (a := s5) (i := 2) rfl)))))))
theorem ru_gathered : ∀ j, CallR (R_gathered j) (qC eD (q1 eS)) (fun (a : D × Str) => u_gathered j a.1 a.2) (eL eD)
  | 0 => fun _ _ _ => trivial
  | j + 1 => rb_gathered (ru_gathered j)
theorem r_gathered : CallR F_gathered (qC eD (q1 eS)) (fun (a : D × Str) => t_gathered a.1 a.2) (eL eD) := ru_gathered _
theorem c_gathered {ρ : KEnv} {fs : DL.Env → Res (List D)} {x0 : D} {x1 : Str} (h : EvR ρ fs (.ok (x0, x1)) (qC eD (q1 eS))) : EvR ρ (eCall F_gathered fs) (t_gathered x0 x1) (eL eD) := v_callp (t := fun a : D × Str => t_gathered a.1 a.2) (a := (x0, x1)) r_gathered h
theorem m_gathered {ρ : KEnv} {fs : DL.Env → Res (List D)} {r : Res (D × Str)} (h : EvR ρ fs r (qC eD (q1 eS))) : EvR ρ (eCall F_gathered fs) (r.bind fun a => t_gathered a.1 a.2) (eL eD) := v_call (t := fun a : D × Str => t_gathered a.1 a.2) r_gathered h
noncomputable def t_fields_in (term : D) : Res (List D) :=
  ((((t_gathered term ("field" : Str)).bind fun z => .ok ((fLst (fun d => d)) z)).bind fun a1 => (dSortSet a1)).bind D.asL)
theorem r_fields_in : CallR F_fields_in (q1 eD) (fun (a : D) => t_fields_in a) (eL eD) := by
  rintro term _ ⟨d0, rfl, h0⟩
  refine r_def (n := 1) (m := 1) (k := 0) (ρ := ([some (sh eD term)] : KEnv)) (LeA.cons h0 LeA.nil) rfl ?_
  exact (j_retT (v_asL (v_1 (o_raw1 dSortSet) (v_mapF (f := (fLst (fun d => d))) (Fun.lst Fun.raw) (c_gathered (vq_cp (v_s (E := eD) (a := term) (i := 0) rfl) (vq_1 (v_c (E := eS) (a := ("field" : Str)) rfl))))))))
theorem c_fields_in {ρ : KEnv} {fs : DL.Env → Res (List D)} {x0 : D} (h : EvR ρ fs (.ok x0) (q1 eD)) : EvR ρ (eCall F_fields_in fs) (t_fields_in x0) (eL eD) := v_callp (t := fun a : D => t_fields_in a) (a := x0) r_fields_in h
theorem m_fields_in {ρ : KEnv} {fs : DL.Env → Res (List D)} {r : Res (D)} (h : EvR ρ fs r (q1 eD)) : EvR ρ (eCall F_fields_in fs) (r.bind fun a => t_fields_in a) (eL eD) := v_call (t := fun a : D => t_fields_in a) r_fields_in h
noncomputable def t_width_made (view : D) (width : Int) : Res D :=
  ((dIx view (D.int (0 : Int))).bind fun a1 => (rawB (dEq a1 (D.str ("rows" : Str))))).bind fun z => if z = true then
  (((dIx view (D.int (1 : Int))).bind D.asItems).bind fun l4 => compR l4 (fun some_3 => ((dLen some_3).bind D.asI))).bind fun wides5 =>
  ((t_all_alike ((fLst D.int) wides5)).bind fun z => .ok (!z)).bind fun z => if z = true then
  Res.ok ((fun _ => D.non) ())
else
  ((getL wides5 (0 : Int)).bind fun z => .ok (D.int z))
else
  (((dIx view (D.int (1 : Int))).bind D.asItems).bind fun l8 => compR l8 (fun pair6 => (((dIx pair6 (D.int (1 : Int))).bind fun a7 => (dLen a7)).bind D.asI))).bind fun wides9 =>
  ((t_all_alike ((fLst D.int) wides9)).bind fun z => .ok (!z)).bind fun z => if z = true then
  Res.ok ((fun _ => D.non) ())
else
  (if (0 : Int) < ((wides9.length : Nat) : Int) then ((getL wides9 (0 : Int)).bind fun b12 => .ok (width + b12)).bind fun width13 =>
  Res.ok width13 else Res.ok width : Res (Int)).bind fun z10 =>
  if (4 : Int) < z10 then
  Res.ok ((fun _ => D.non) ())
else
  Res.ok (D.int z10)
theorem r_width_made : CallR F_width_made (qC eD (q1 eI)) (fun (a : D × Int) => t_width_made a.1 a.2) eD := by
  rintro ⟨view, width⟩ _ ⟨d0, _, rfl, h0, ⟨d1, rfl, h1⟩⟩
  refine r_def (n := 2) (m := 5) (k := 3) (ρ := ([some (sh eD view), some (sh eI width)] : KEnv)) (LeA.cons h0 (LeA.cons h1 LeA.nil)) rfl ?_
  exact (j_ifs (al := []) (b_test (v_op (o_rawB dEq) (v_opp ((o_raw dIx) _ _) (v_s (E := eD) (a := view) (i := 0) rfl) (vI 0)) (vT ("rows" : Str)))) (j_assoc (j_do (d_set (al := []) (v_comp (ρb := fun some_3 => ([some (sh eD view), some (sh eI width), none, some (sh eD some_3), none] : KEnv)) (v_seqD (v_opp ((o_raw dIx) _ _) (v_s (E := eD) (a := view) (i := 0) rfl) (vI 1))) (fun some_3 => (p_nm (i := 3))) (fun some_3 => (v_asI (v_1p ((o_raw1 dLen) _) (v_s (E := eD) (a := some_3) (i := 3) rfl)))))) (fun wides5 => (j_assoc (j_ifs (al := []) (b_not (b_truB (c_all_alike (vq_1 (v_castF (f := (fLst D.int)) (Fun.lst Fun.int) (v_s (E := (eL eI)) (a := wides5) (i := 2) rfl)))))) (j_assoc (j_retT (v_castF (f := (fun _ => D.non)) Fun.non (v_c (E := eN) (a := ()) rfl)))) (j_skip (j_assoc (j_retT (v_mapF (f := D.int) Fun.int (v_opp (o_ixL _ _) (v_s (E := (eL eI)) (a := wides5) (i := 2) rfl) (vN 0))))))))))) (j_skip (j_do (d_set (al := []) (v_comp (ρb := fun pair6 => ([some (sh eD view), some (sh eI width), none, none, some (sh eD pair6)] : KEnv)) (v_seqD (v_opp ((o_raw dIx) _ _) (v_s (E := eD) (a := view) (i := 0) rfl) (vI 1))) (fun pair6 => (p_nm (i := 4))) (fun pair6 => (v_asI (v_1 (o_raw1 dLen) (v_opp ((o_raw dIx) _ _) (v_s (E := eD) (a := pair6) (i := 4) rfl) (vI 1))))))) (fun wides9 => (j_ifs (al := []) (b_not (b_truB (c_all_alike (vq_1 (v_castF (f := (fLst D.int)) (Fun.lst Fun.int) (v_s (E := (eL eI)) (a := wides9) (i := 2) rfl)))))) (j_assoc (j_retT (v_castF (f := (fun _ => D.non)) Fun.non (v_c (E := eN) (a := ()) rfl)))) (j_skip (j_do (j_ifP (P := PN fun (z10 : (Int)) => ([some (sh eD view), some (sh eI z10), some (sh (eL eI) wides9), none, none] : KEnv)) (al := []) (b_test (v_opp (o_gt _ _) (v_1p (o_lenL _) (v_s (E := (eL eI)) (a := wides9) (i := 2) rfl)) (vN 0))) (j_do (d_set (al := []) (v_op o_add (v_s (E := eI) (a := width) (i := 1) rfl) (v_opp (o_ixL _ _) (v_s (E := (eL eI)) (a := wides9) (i := 2) rfl) (vN 0)))) (fun width13 => (j_end (Sb.same (Sb.same (Sb.same (Sb.drop (Sb.drop Sb.nil)))))))) (j_end (Sb.same (Sb.same (Sb.same (Sb.drop (Sb.drop Sb.nil))))))) (fun z10 => (j_ifsP (al := []) (b_test (v_opp (o_gt _ _) (v_s (E := eI) (a := z10) (i := 1) rfl) (vN 4))) (j_assoc (j_retT (v_castF (f := (fun _ => D.non)) Fun.non (v_c (E := eN) (a := ()) rfl)))) (j_skip (j_retT (v_castF (f := D.int) Fun.int (v_s (E := eI) (a := z10) (i := 1) rfl)))))))))))))
theorem c_width_made {ρ : KEnv} {fs : DL.Env → Res (List D)} {x0 : D} {x1 : Int} (h : EvR ρ fs (.ok (x0, x1)) (qC eD (q1 eI))) : EvR ρ (eCall F_width_made fs) (t_width_made x0 x1) eD := v_callp (t := fun a : D × Int => t_width_made a.1 a.2) (a := (x0, x1)) r_width_made h
theorem m_width_made {ρ : KEnv} {fs : DL.Env → Res (List D)} {r : Res (D × Int)} (h : EvR ρ fs r (qC eD (q1 eI))) : EvR ρ (eCall F_width_made fs) (r.bind fun a => t_width_made a.1 a.2) eD := v_call (t := fun a : D × Int => t_width_made a.1 a.2) r_width_made h
noncomputable def tb_width_of (G : D → Int → Res D) (view : D) (width : Int) : Res D :=
  ((dIx view (D.int (0 : Int))).bind fun a1 => (rawB (dEq a1 (D.str ("all" : Str))))).bind fun z => if z = true then
  Res.ok (D.int width)
else
  ((t_inner_views view).bind fun l4 => compR l4 (fun one3 => (G one3 width))).bind fun inner5 =>
  ((rawB ((dInA false) ((fun _ => D.non) ()) ((fLst (fun d => d)) inner5))).bind fun z => if z = true then .ok true else ((t_all_alike ((fLst (fun d => d)) inner5)).bind fun z => .ok (!z))).bind fun z => if z = true then
  Res.ok ((fun _ => D.non) ())
else
  thenX ((t_own_terms view).bind fun l11 => forX l11 () (fun term7 s6 =>
  (t_fields_in term7).bind fun fields8 =>
  (if (0 : Int) < ((fields8.length : Nat) : Int) then (((getL fields8 (-(1 : Int))).bind D.asI).bind fun a9 => ((getL inner5 (0 : Int)).bind D.asI).bind fun b10 => .ok (decide (b10 ≤ a9))) else .ok false).bind fun z => if z = true then
  Res.ok (.rt ((fun _ => D.non) ()))
else
  Res.ok (.nx ())) : Res (Oc Unit D)) (fun v => v) fun s6 =>
  (((dIx view (D.int (0 : Int))).bind fun a12 => (rawB (dEq a12 (D.str ("rows" : Str))))).bind fun z => if z = true then .ok true else ((dIx view (D.int (0 : Int))).bind fun a14 => (rawB (dEq a14 (D.str ("match" : Str)))))).bind fun z => if z = true then
  (((getL inner5 (0 : Int)).bind D.asI).bind fun a19 => t_width_made view a19)
else
  (getL inner5 (0 : Int))
noncomputable def u_width_of : Nat → D → Int → Res D
  | 0 => fun _ _ => .bad
  | j + 1 => tb_width_of (u_width_of j)
noncomputable def t_width_of : D → Int → Res D := u_width_of 12
theorem rb_width_of {GF : List D → Res D} {G : D → Int → Res D} (r_G : CallR GF (qC eD (q1 eI)) (fun (a : D × Int) => G a.1 a.2) eD) : CallR (runDef 2 6 (b_width_of GF)) (qC eD (q1 eI)) (fun (a : D × Int) => tb_width_of G a.1 a.2) eD := by
  have c_G : ∀ {ρ : KEnv} {fs : DL.Env → Res (List D)} {x0 : D} {x1 : Int}, EvR ρ fs (.ok (x0, x1)) (qC eD (q1 eI)) → EvR ρ (eCall GF fs) (G x0 x1) eD := fun {ρ fs x0 x1} h => v_callp (t := fun a : D × Int => G a.1 a.2) (a := (x0, x1)) r_G h
  have m_G : ∀ {ρ : KEnv} {fs : DL.Env → Res (List D)} {r : Res (D × Int)}, EvR ρ fs r (qC eD (q1 eI)) → EvR ρ (eCall GF fs) (r.bind fun a => G a.1 a.2) eD := fun h => v_call (t := fun a : D × Int => G a.1 a.2) r_G h
  rintro ⟨view, width⟩ _ ⟨d0, _, rfl, h0, ⟨d1, rfl, h1⟩⟩
  refine r_def (n := 2) (m := 6) (k := 4) (ρ := ([some (sh eD view), some (sh eI width)] : KEnv)) (LeA.cons h0 (LeA.cons h1 LeA.nil)) rfl ?_
  exact (j_ifs (al := []) (b_test (v_op (o_rawB dEq) (v_opp ((o_raw dIx) _ _) (v_s (E := eD) (a := view) (i := 0) rfl) (vI 0)) (vT ("all" : Str)))) (j_assoc (j_retT (v_castF (f := D.int) Fun.int (v_s (E := eI) (a := width) (i := 1) rfl)))) (j_skip (j_do (d_set (al := []) (v_comp (ρb := fun one3 => ([some (sh eD view), some (sh eI width), none, some (sh eD one3), none, none] : KEnv)) (v_seqL (c_inner_views (vq_1 (v_s (E := eD) (a := view) (i := 0) rfl)))) (fun one3 => (p_nm (i := 3))) (fun one3 => (c_G (vq_cp (v_s (E := eD) (a := one3) (i := 3) rfl) (vq_1 (v_s (E := eI) (a := width) (i := 1) rfl))))))) (fun inner5 => (j_ifs (al := []) (b_or (b_test (v_opp ((o_rawB (dInA false)) _ _) (v_castF (f := (fun _ => D.non)) Fun.non (v_c (E := eN) (a := ()) rfl)) (v_castF (f := (fLst (fun d => d))) (Fun.lst Fun.raw) (v_s (E := (eL eD)) (a := inner5) (i := 2) rfl)))) (b_not (b_truB (c_all_alike (vq_1 (v_castF (f := (fLst (fun d => d))) (Fun.lst Fun.raw) (v_s (E := (eL eD)) (a := inner5) (i := 2) rfl))))))) (j_assoc (j_retT (v_castF (f := (fun _ => D.non)) Fun.non (v_c (E := eN) (a := ()) rfl)))) (j_skip (j_xT (d_forX (E' := eD) (al := []) (ρs := fun (s6 : Unit) => ([some (sh eD view), some (sh eI width), some (sh (eL eD) inner5), none, none, none] : KEnv)) (ρb := fun term7 (s6 : Unit) => ([some (sh eD view), some (sh eI width), some (sh (eL eD) inner5), none, some (sh eD term7), none] : KEnv)) (v_seqL (c_own_terms (vq_1 (v_s (E := eD) (a := view) (i := 0) rfl)))) (Sb.same (Sb.same (Sb.same (Sb.drop (Sb.drop (Sb.drop Sb.nil)))))) (fun term7 s6 => (p_nm (i := 4))) (fun term7 s6 => (j_do (d_set (al := []) (c_fields_in (vq_1 (v_s (E := eD) (a := term7) (i := 4) rfl)))) (fun fields8 => (j_ifs (al := []) (b_andM (b_test (v_opp (o_gt _ _) (v_1p (o_lenL _) (v_s (E := (eL eD)) (a := fields8) (i := 5) rfl)) (vN 0))) (b_test (v_op o_ge (v_asI (v_opp (o_ixL _ _) (v_s (E := (eL eD)) (a := fields8) (i := 5) rfl) (v_neg (vN 1)))) (v_asI (v_opp (o_ixL _ _) (v_s (E := (eL eD)) (a := inner5) (i := 2) rfl) (vN 0)))))) (j_assoc (j_retL (v_castF (f := (fun _ => D.non)) Fun.non (v_c (E := eN) (a := ()) rfl)))) (j_skip (j_endL (Sb.same (Sb.same (Sb.same (Sb.drop (Sb.drop (Sb.drop Sb.nil))))))))))))) (fun s6 => (j_ifs (al := []) (b_or (b_test (v_op (o_rawB dEq) (v_opp ((o_raw dIx) _ _) (v_s (E := eD) (a := view) (i := 0) rfl) (vI 0)) (vT ("rows" : Str)))) (b_test (v_op (o_rawB dEq) (v_opp ((o_raw dIx) _ _) (v_s (E := eD) (a := view) (i := 0) rfl) (vI 0)) (vT ("match" : Str))))) (j_assoc (j_retT (v_eqr (r := (((getL inner5 (0 : Int)).bind D.asI).bind fun b17 => .ok (view, b17)).bind fun a => t_width_made a.1 a.2) (m_width_made (vq_c (v_s (E := eD) (a := view) (i := 0) rfl) (vq_1 (v_asI (v_opp (o_ixL _ _) (v_s (E := (eL eD)) (a := inner5) (i := 2) rfl) (vN 0)))))) (by first | (simp only [Res.assoc, Res.bind_ok]; done) | (simp only [Res.assoc, Res.bind_ok]; rfl))))) (j_skip (j_retT (v_opp (o_ixL _ _) (v_s (E := (eL eD)) (a := inner5) (i := 2) rfl) (vN 0)))))))))))))
theorem ru_width_of : ∀ j, CallR (R_width_of j) (qC eD (q1 eI)) (fun (a : D × Int) => u_width_of j a.1 a.2) eD
  | 0 => fun _ _ _ => trivial
  | j + 1 => rb_width_of (ru_width_of j)
theorem r_width_of : CallR F_width_of (qC eD (q1 eI)) (fun (a : D × Int) => t_width_of a.1 a.2) eD := ru_width_of _
theorem c_width_of {ρ : KEnv} {fs : DL.Env → Res (List D)} {x0 : D} {x1 : Int} (h : EvR ρ fs (.ok (x0, x1)) (qC eD (q1 eI))) : EvR ρ (eCall F_width_of fs) (t_width_of x0 x1) eD := v_callp (t := fun a : D × Int => t_width_of a.1 a.2) (a := (x0, x1)) r_width_of h
theorem m_width_of {ρ : KEnv} {fs : DL.Env → Res (List D)} {r : Res (D × Int)} (h : EvR ρ fs r (qC eD (q1 eI))) : EvR ρ (eCall F_width_of fs) (r.bind fun a => t_width_of a.1 a.2) eD := v_call (t := fun a : D × Int => t_width_of a.1 a.2) r_width_of h
noncomputable def t_l_whole (found : D) : Res Bool :=
  ((rawB (isInt found)).bind fun z => if z = true then ((rawB (isBool found)).bind fun z => .ok (!z)) else .ok false)
theorem r_l_whole : CallR F_l_whole (q1 eD) (fun (a : D) => t_l_whole a) eB := by
  rintro found _ ⟨d0, rfl, h0⟩
  refine r_def (n := 1) (m := 1) (k := 0) (ρ := ([some (sh eD found)] : KEnv)) (LeA.cons h0 LeA.nil) rfl ?_
  exact (j_retT (v_and (v_1p ((o_raw1B isInt) _) (v_s (E := eD) (a := found) (i := 0) rfl)) (v_not (v_1p ((o_raw1B isBool) _) (v_s (E := eD) (a := found) (i := 0) rfl)))))
theorem c_l_whole {ρ : KEnv} {fs : DL.Env → Res (List D)} {x0 : D} (h : EvR ρ fs (.ok x0) (q1 eD)) : EvR ρ (eCall F_l_whole fs) (t_l_whole x0) eB := v_callp (t := fun a : D => t_l_whole a) (a := x0) r_l_whole h
theorem m_l_whole {ρ : KEnv} {fs : DL.Env → Res (List D)} {r : Res (D)} (h : EvR ρ fs r (q1 eD)) : EvR ρ (eCall F_l_whole fs) (r.bind fun a => t_l_whole a) eB := v_call (t := fun a : D => t_l_whole a) r_l_whole h
noncomputable def tb_view_depth (G : D → Res Int) (view : D) : Res Int :=
  ((((t_inner_views view).bind fun l2 => compR l2 (fun one1 => (G one1))).bind fun a3 => .ok (maxDef 0 a3)).bind fun b5 => .ok ((1 : Int) + b5))
noncomputable def u_view_depth : Nat → D → Res Int
  | 0 => fun _ => .bad
  | j + 1 => tb_view_depth (u_view_depth j)
noncomputable def t_view_depth : D → Res Int := u_view_depth 12
theorem rb_view_depth {GF : List D → Res D} {G : D → Res Int} (r_G : CallR GF (q1 eD) (fun (a : D) => G a) eI) : CallR (runDef 1 2 (b_view_depth GF)) (q1 eD) (fun (a : D) => tb_view_depth G a) eI := by
  have c_G : ∀ {ρ : KEnv} {fs : DL.Env → Res (List D)} {x0 : D}, EvR ρ fs (.ok x0) (q1 eD) → EvR ρ (eCall GF fs) (G x0) eI := fun {ρ fs x0} h => v_callp (t := fun a : D => G a) (a := x0) r_G h
  have m_G : ∀ {ρ : KEnv} {fs : DL.Env → Res (List D)} {r : Res (D)}, EvR ρ fs r (q1 eD) → EvR ρ (eCall GF fs) (r.bind fun a => G a) eI := fun h => v_call (t := fun a : D => G a) r_G h
  rintro view _ ⟨d0, rfl, h0⟩
  refine r_def (n := 1) (m := 2) (k := 1) (ρ := ([some (sh eD view)] : KEnv)) (LeA.cons h0 LeA.nil) rfl ?_
  exact (j_retT (v_op o_add (vN 1) (v_1 (o_maxDef (0)) (v_comp (ρb := fun one1 => ([some (sh eD view), some (sh eD one1)] : KEnv)) (v_seqL (c_inner_views (vq_1 (v_s (E := eD) (a := view) (i := 0) rfl)))) (fun one1 => (p_nm (i := 1))) (fun one1 => (c_G (vq_1 (v_s (E := eD) (a := one1) (i := 1) rfl))))))))
theorem ru_view_depth : ∀ j, CallR (R_view_depth j) (q1 eD) (fun (a : D) => u_view_depth j a) eI
  | 0 => fun _ _ _ => trivial
  | j + 1 => rb_view_depth (ru_view_depth j)
theorem r_view_depth : CallR F_view_depth (q1 eD) (fun (a : D) => t_view_depth a) eI := ru_view_depth _
theorem c_view_depth {ρ : KEnv} {fs : DL.Env → Res (List D)} {x0 : D} (h : EvR ρ fs (.ok x0) (q1 eD)) : EvR ρ (eCall F_view_depth fs) (t_view_depth x0) eI := v_callp (t := fun a : D => t_view_depth a) (a := x0) r_view_depth h
theorem m_view_depth {ρ : KEnv} {fs : DL.Env → Res (List D)} {r : Res (D)} (h : EvR ρ fs r (q1 eD)) : EvR ρ (eCall F_view_depth fs) (r.bind fun a => t_view_depth a) eI := v_call (t := fun a : D => t_view_depth a) r_view_depth h
noncomputable def tb_l_terms (G : D → Res (List D)) (view : D) : Res (List D) :=
  ((dIx view (D.int (0 : Int))).bind fun a1 => (rawB (dEq a1 (D.str ("all" : Str))))).bind fun z => if z = true then
  Res.ok ([] : List D)
else
  ((dIx view (D.int (0 : Int))).bind fun a3 => (rawB (dEq a3 (D.str ("both" : Str))))).bind fun z => if z = true then
  (((dIx view (D.int (1 : Int))).bind fun a5 => G a5).bind fun a7 => ((dIx view (D.int (2 : Int))).bind fun a6 => G a6).bind fun b8 => (catR a7 b8))
else
  ((((dIx view (D.int (0 : Int))).bind fun a9 => (rawB (dEq a9 (D.str ("keep" : Str))))).bind fun z => if z = true then .ok true else ((dIx view (D.int (0 : Int))).bind fun a11 => (rawB (dEq a11 (D.str ("cap" : Str)))))).bind fun z => if z = true then ((dIx view (D.int (1 : Int))).bind fun a14 => .ok (a14 :: [])).bind fun some_16 =>
  Res.ok some_16 else Res.ok ([] : List D) : Res ((List D))).bind fun z13 =>
  (((dIx view (D.int (0 : Int))).bind fun a17 => (rawB (dEq a17 (D.str ("match" : Str))))).bind fun z => if z = true then ((dIx view (D.int (2 : Int))).bind fun a20 => .ok (a20 :: [])).bind fun some_22 =>
  Res.ok some_22 else Res.ok z13 : Res ((List D))).bind fun z19 =>
  (((dIx view (D.int (0 : Int))).bind fun a23 => (rawB (dEq a23 (D.str ("rows" : Str))))).bind fun z => if z = true then (((dIx view (D.int (1 : Int))).bind D.asItems).bind fun l32 => forR l32 z19 (fun terms_here27 s26 =>
  ((D.asT terms_here27).bind fun b30 => (catR s26 b30)).bind fun some_31 =>
  Res.ok some_31) : Res ((List D))).bind fun s26 =>
  Res.ok s26 else Res.ok z19 : Res ((List D))).bind fun z25 =>
  (((dIx view (D.int (-(1 : Int)))).bind fun a33 => G a33).bind fun b35 => (catR z25 b35))
noncomputable def u_l_terms : Nat → D → Res (List D)
  | 0 => fun _ => .bad
  | j + 1 => tb_l_terms (u_l_terms j)
noncomputable def t_l_terms : D → Res (List D) := u_l_terms 12
theorem rb_l_terms {GF : List D → Res D} {G : D → Res (List D)} (r_G : CallR GF (q1 eD) (fun (a : D) => G a) (eL eD)) : CallR (runDef 1 3 (b_l_terms GF)) (q1 eD) (fun (a : D) => tb_l_terms G a) (eL eD) := by
  have c_G : ∀ {ρ : KEnv} {fs : DL.Env → Res (List D)} {x0 : D}, EvR ρ fs (.ok x0) (q1 eD) → EvR ρ (eCall GF fs) (G x0) (eL eD) := fun {ρ fs x0} h => v_callp (t := fun a : D => G a) (a := x0) r_G h
  have m_G : ∀ {ρ : KEnv} {fs : DL.Env → Res (List D)} {r : Res (D)}, EvR ρ fs r (q1 eD) → EvR ρ (eCall GF fs) (r.bind fun a => G a) (eL eD) := fun h => v_call (t := fun a : D => G a) r_G h
  rintro view _ ⟨d0, rfl, h0⟩
  refine r_def (n := 1) (m := 3) (k := 2) (ρ := ([some (sh eD view)] : KEnv)) (LeA.cons h0 LeA.nil) rfl ?_
  exact (j_ifs (al := []) (b_test (v_op (o_rawB dEq) (v_opp ((o_raw dIx) _ _) (v_s (E := eD) (a := view) (i := 0) rfl) (vI 0)) (vT ("all" : Str)))) (j_assoc (j_retT (v_lst (vl_nil (E := eD))))) (j_skip (j_ifs (al := []) (b_test (v_op (o_rawB dEq) (v_opp ((o_raw dIx) _ _) (v_s (E := eD) (a := view) (i := 0) rfl) (vI 0)) (vT ("both" : Str)))) (j_assoc (j_retT (v_op o_catL (m_G (vq_1 (v_opp ((o_raw dIx) _ _) (v_s (E := eD) (a := view) (i := 0) rfl) (vI 1)))) (m_G (vq_1 (v_opp ((o_raw dIx) _ _) (v_s (E := eD) (a := view) (i := 0) rfl) (vI 2))))))) (j_skip (j_go (g_set (al := []) (v_lst (vl_nil (E := eD)))) (j_do (j_if (P := PN fun (z13 : ((List D))) => ([some (sh eD view), some (sh (eL eD) z13), none] : KEnv)) (al := []) (b_or (b_test (v_op (o_rawB dEq) (v_opp ((o_raw dIx) _ _) (v_s (E := eD) (a := view) (i := 0) rfl) (vI 0)) (vT ("keep" : Str)))) (b_test (v_op (o_rawB dEq) (v_opp ((o_raw dIx) _ _) (v_s (E := eD) (a := view) (i := 0) rfl) (vI 0)) (vT ("cap" : Str))))) (j_do (d_set (al := []) (v_lst (vl_c (v_opp ((o_raw dIx) _ _) (v_s (E := eD) (a := view) (i := 0) rfl) (vI 1)) vl_nil))) (fun some_16 => (j_end (Sb.same (Sb.same (Sb.drop Sb.nil)))))) (j_end (Sb.same (Sb.same (Sb.drop Sb.nil))))) (fun z13 => (j_do (j_if (P := PN fun (z19 : ((List D))) => ([some (sh eD view), some (sh (eL eD) z19), none] : KEnv)) (al := []) (b_test (v_op (o_rawB dEq) (v_opp ((o_raw dIx) _ _) (v_s (E := eD) (a := view) (i := 0) rfl) (vI 0)) (vT ("match" : Str)))) (j_do (d_set (al := []) (v_lst (vl_c (v_opp ((o_raw dIx) _ _) (v_s (E := eD) (a := view) (i := 0) rfl) (vI 2)) vl_nil))) (fun some_22 => (j_end (Sb.same (Sb.same (Sb.drop Sb.nil)))))) (j_end (Sb.same (Sb.same (Sb.drop Sb.nil))))) (fun z19 => (j_do (j_if (P := PN fun (z25 : ((List D))) => ([some (sh eD view), some (sh (eL eD) z25), none] : KEnv)) (al := []) (b_test (v_op (o_rawB dEq) (v_opp ((o_raw dIx) _ _) (v_s (E := eD) (a := view) (i := 0) rfl) (vI 0)) (vT ("rows" : Str)))) (j_do (d_for (al := []) (ρs := fun (s26 : ((List D))) => ([some (sh eD view), some (sh (eL eD) s26), none] : KEnv)) (ρb := fun terms_here27 (s26 : ((List D))) => ([some (sh eD view), some (sh (eL eD) s26), some (sh eD terms_here27)] : KEnv)) (v_seqD (v_opp ((o_raw dIx) _ _) (v_s (E := eD) (a := view) (i := 0) rfl) (vI 1))) (Sb.same (Sb.same (Sb.drop Sb.nil))) (fun terms_here27 s26 => (p_nm (i := 2))) (fun terms_here27 s26 => (j_do (d_set (al := []) (v_op o_catL (v_s (E := (eL eD)) (a := s26) (i := 1) rfl) (v_1i o_lstT (v_asT (v_s (E := eD) (a := terms_here27) (i := 2) rfl))))) (fun some_31 => (j_endB (Sb.same (Sb.same (Sb.drop Sb.nil)))))))) (fun s26 => (j_end (Sb.same (Sb.same (Sb.drop Sb.nil)))))) (j_end (Sb.same (Sb.same (Sb.drop Sb.nil))))) (fun z25 => (j_retT (v_op o_catL (v_s (E := (eL eD)) (a := z25) (i := 1) rfl) (m_G (vq_1 (v_opp ((o_raw dIx) _ _) (v_s (E := eD) (a := view) (i := 0) rfl) (v_castF (f := D.int) Fun.int (v_neg (vN 1)))))))))))))))))))
theorem ru_l_terms : ∀ j, CallR (R_l_terms j) (q1 eD) (fun (a : D) => u_l_terms j a) (eL eD)
  | 0 => fun _ _ _ => trivial
  | j + 1 => rb_l_terms (ru_l_terms j)
theorem r_l_terms : CallR F_l_terms (q1 eD) (fun (a : D) => t_l_terms a) (eL eD) := ru_l_terms _
theorem c_l_terms {ρ : KEnv} {fs : DL.Env → Res (List D)} {x0 : D} (h : EvR ρ fs (.ok x0) (q1 eD)) : EvR ρ (eCall F_l_terms fs) (t_l_terms x0) (eL eD) := v_callp (t := fun a : D => t_l_terms a) (a := x0) r_l_terms h
theorem m_l_terms {ρ : KEnv} {fs : DL.Env → Res (List D)} {r : Res (D)} (h : EvR ρ fs r (q1 eD)) : EvR ρ (eCall F_l_terms fs) (r.bind fun a => t_l_terms a) (eL eD) := v_call (t := fun a : D => t_l_terms a) r_l_terms h
noncomputable def t_names_in (term : D) : Res (List D) :=
  ((((t_gathered term ("name" : Str)).bind fun z => .ok ((fLst (fun d => d)) z)).bind fun a1 => (dSortSet a1)).bind D.asL)
theorem r_names_in : CallR F_names_in (q1 eD) (fun (a : D) => t_names_in a) (eL eD) := by
  rintro term _ ⟨d0, rfl, h0⟩
  refine r_def (n := 1) (m := 1) (k := 0) (ρ := ([some (sh eD term)] : KEnv)) (LeA.cons h0 LeA.nil) rfl ?_
  exact (j_retT (v_asL (v_1 (o_raw1 dSortSet) (v_mapF (f := (fLst (fun d => d))) (Fun.lst Fun.raw) (c_gathered (vq_cp (v_s (E := eD) (a := term) (i := 0) rfl) (vq_1 (v_c (E := eS) (a := ("name" : Str)) rfl))))))))
theorem c_names_in {ρ : KEnv} {fs : DL.Env → Res (List D)} {x0 : D} (h : EvR ρ fs (.ok x0) (q1 eD)) : EvR ρ (eCall F_names_in fs) (t_names_in x0) (eL eD) := v_callp (t := fun a : D => t_names_in a) (a := x0) r_names_in h
theorem m_names_in {ρ : KEnv} {fs : DL.Env → Res (List D)} {r : Res (D)} (h : EvR ρ fs r (q1 eD)) : EvR ρ (eCall F_names_in fs) (r.bind fun a => t_names_in a) (eL eD) := v_call (t := fun a : D => t_names_in a) r_names_in h
noncomputable def tb_view_names (G : D → Res (List Str)) (view : D) : Res (List Str) :=
  (Res.ok ([] : (List (Str × Bool)))).bind fun found1 =>
  ((t_own_terms view).bind fun l10 => forR l10 found1 (fun term3 s2 =>
  ((t_names_in term3).bind fun l9 => forR l9 s2 (fun name5 s4 =>
  ((D.asS name5).bind fun b8 => putDR s4 b8 true).bind fun found6 =>
  Res.ok found6) : Res ((List (Str × Bool)))).bind fun s4 =>
  Res.ok s4) : Res ((List (Str × Bool)))).bind fun s2 =>
  ((t_inner_views view).bind fun l17 => forR l17 s2 (fun one12 s11 =>
  ((G one12).bind fun l16 => forR l16 s11 (fun name14 s13 =>
  (putDR s13 name14 true).bind fun found15 =>
  Res.ok found15) : Res ((List (Str × Bool)))).bind fun s13 =>
  Res.ok s13) : Res ((List (Str × Bool)))).bind fun s11 =>
  (sortSR (s11.map (·.1)))
noncomputable def u_view_names : Nat → D → Res (List Str)
  | 0 => fun _ => .bad
  | j + 1 => tb_view_names (u_view_names j)
noncomputable def t_view_names : D → Res (List Str) := u_view_names 12
theorem rb_view_names {GF : List D → Res D} {G : D → Res (List Str)} (r_G : CallR GF (q1 eD) (fun (a : D) => G a) (eL eS)) : CallR (runDef 1 5 (b_view_names GF)) (q1 eD) (fun (a : D) => tb_view_names G a) (eL eS) := by
  have c_G : ∀ {ρ : KEnv} {fs : DL.Env → Res (List D)} {x0 : D}, EvR ρ fs (.ok x0) (q1 eD) → EvR ρ (eCall GF fs) (G x0) (eL eS) := fun {ρ fs x0} h => v_callp (t := fun a : D => G a) (a := x0) r_G h
  have m_G : ∀ {ρ : KEnv} {fs : DL.Env → Res (List D)} {r : Res (D)}, EvR ρ fs r (q1 eD) → EvR ρ (eCall GF fs) (r.bind fun a => G a) (eL eS) := fun h => v_call (t := fun a : D => G a) r_G h
  rintro view _ ⟨d0, rfl, h0⟩
  refine r_def (n := 1) (m := 5) (k := 4) (ρ := ([some (sh eD view)] : KEnv)) (LeA.cons h0 LeA.nil) rfl ?_
  exact (j_do (d_setF (al := []) v_dnew) (fun found1 => (j_do (d_for (al := []) (ρs := fun (s2 : ((List (Str × Bool)))) => ([some (sh eD view), some (ow (eM false D.str eB) s2), none, none, none] : KEnv)) (ρb := fun term3 (s2 : ((List (Str × Bool)))) => ([some (sh eD view), some (ow (eM false D.str eB) s2), some (sh eD term3), none, none] : KEnv)) (v_seqL (c_own_terms (vq_1 (v_s (E := eD) (a := view) (i := 0) rfl)))) (Sb.same (Sb.same (Sb.drop (Sb.drop (Sb.drop Sb.nil))))) (fun term3 s2 => (p_nm (i := 2))) (fun term3 s2 => (j_do (d_for (al := []) (ρs := fun (s4 : ((List (Str × Bool)))) => ([some (sh eD view), some (ow (eM false D.str eB) s4), some (sh eD term3), none, none] : KEnv)) (ρb := fun name5 (s4 : ((List (Str × Bool)))) => ([some (sh eD view), some (ow (eM false D.str eB) s4), some (sh eD term3), some (sh eD name5), none] : KEnv)) (v_seqL (c_names_in (vq_1 (v_s (E := eD) (a := term3) (i := 2) rfl)))) (Sb.same (Sb.same (Sb.same (Sb.drop (Sb.drop Sb.nil))))) (fun name5 s4 => (p_nm (i := 3))) (fun name5 s4 => (j_do (ρs := fun found6 => ([some (sh eD view), some (ow (eM false D.str eB) found6), some (sh eD term3), some (sh eD name5), none] : KEnv)) (d_putD KeyF.str (al := []) rfl (v_keyS (v_asS (v_s (E := eD) (a := name5) (i := 3) rfl))) (v_c (E := eB) (a := true) rfl)) (fun found6 => (j_endB (Sb.same (Sb.same (Sb.same (Sb.drop (Sb.drop Sb.nil)))))))))) (fun s4 => (j_endB (Sb.same (Sb.same (Sb.drop (Sb.drop (Sb.drop Sb.nil)))))))))) (fun s2 => (j_do (d_for (al := []) (ρs := fun (s11 : ((List (Str × Bool)))) => ([some (sh eD view), some (ow (eM false D.str eB) s11), none, none, none] : KEnv)) (ρb := fun one12 (s11 : ((List (Str × Bool)))) => ([some (sh eD view), some (ow (eM false D.str eB) s11), none, none, some (sh eD one12)] : KEnv)) (v_seqL (c_inner_views (vq_1 (v_s (E := eD) (a := view) (i := 0) rfl)))) (Sb.same (Sb.same (Sb.drop (Sb.drop (Sb.drop Sb.nil))))) (fun one12 s11 => (p_nm (i := 4))) (fun one12 s11 => (j_do (d_for (al := []) (ρs := fun (s13 : ((List (Str × Bool)))) => ([some (sh eD view), some (ow (eM false D.str eB) s13), none, none, some (sh eD one12)] : KEnv)) (ρb := fun name14 (s13 : ((List (Str × Bool)))) => ([some (sh eD view), some (ow (eM false D.str eB) s13), none, some (sh eS name14), some (sh eD one12)] : KEnv)) (v_seqL (c_G (vq_1 (v_s (E := eD) (a := one12) (i := 4) rfl)))) (Sb.same (Sb.same (Sb.drop (Sb.drop (Sb.same Sb.nil))))) (fun name14 s13 => (p_nm (i := 3))) (fun name14 s13 => (j_do (ρs := fun found15 => ([some (sh eD view), some (ow (eM false D.str eB) found15), none, some (sh eS name14), some (sh eD one12)] : KEnv)) (d_putDP KeyF.str (al := []) rfl (v_keyS (v_s (E := eS) (a := name14) (i := 3) rfl)) (v_c (E := eB) (a := true) rfl)) (fun found15 => (j_endB (Sb.same (Sb.same (Sb.drop (Sb.drop (Sb.same Sb.nil)))))))))) (fun s13 => (j_endB (Sb.same (Sb.same (Sb.drop (Sb.drop (Sb.drop Sb.nil)))))))))) (fun s11 => (j_retT (v_1p (o_sortMS _) (v_o (E := (eM false D.str eB)) (a := s11) (i := 1) rfl)))))))))
theorem ru_view_names : ∀ j, CallR (R_view_names j) (q1 eD) (fun (a : D) => u_view_names j a) (eL eS)
  | 0 => fun _ _ _ => trivial
  | j + 1 => rb_view_names (ru_view_names j)
theorem r_view_names : CallR F_view_names (q1 eD) (fun (a : D) => t_view_names a) (eL eS) := ru_view_names _
theorem c_view_names {ρ : KEnv} {fs : DL.Env → Res (List D)} {x0 : D} (h : EvR ρ fs (.ok x0) (q1 eD)) : EvR ρ (eCall F_view_names fs) (t_view_names x0) (eL eS) := v_callp (t := fun a : D => t_view_names a) (a := x0) r_view_names h
theorem m_view_names {ρ : KEnv} {fs : DL.Env → Res (List D)} {r : Res (D)} (h : EvR ρ fs r (q1 eD)) : EvR ρ (eCall F_view_names fs) (r.bind fun a => t_view_names a) (eL eS) := v_call (t := fun a : D => t_view_names a) r_view_names h
noncomputable def t_l_told (view : (D × Int)) (wide : (Option Int)) (deep : Int) : Res Bool :=
  (t_width_of view.1 view.2).bind fun found1 =>
  ((if wide = none then (rawB (dIsNot found1 ((fun _ => D.non) ()))) else .ok false).bind fun z => if z = true then .ok true else (if wide ≠ none then (((t_l_whole found1).bind fun z => .ok (!z)).bind fun z => if z = true then .ok true else (rawB (dNe found1 ((fOpt D.int) wide)))) else .ok false)).bind fun z => if z = true then
  Res.ok false
else
  (((((t_view_depth view.1).bind fun z => .ok (D.int z)).bind fun a2 => t_l_whole a2).bind fun z => .ok (!z)).bind fun z => if z = true then .ok true else ((t_view_depth view.1).bind fun a3 => .ok (decide (a3 ≠ deep)))).bind fun z => if z = true then
  Res.ok false
else
  (Res.ok ([] : (List (Str × Bool)))).bind fun due5 =>
  ((t_l_terms view.1).bind fun l14 => forR l14 due5 (fun term_here7 s6 =>
  ((t_names_in term_here7).bind fun l13 => forR l13 s6 (fun name9 s8 =>
  ((D.asS name9).bind fun b12 => putDR s8 b12 true).bind fun due10 =>
  Res.ok due10) : Res ((List (Str × Bool)))).bind fun s8 =>
  Res.ok s8) : Res ((List (Str × Bool)))).bind fun s6 =>
  ((t_view_names view.1).bind fun z => .ok ((fLst D.str) z)).bind fun found15 =>
  ((rawB (isList found15)).bind fun z => if z = true then (((sortSR (s6.map (·.1))).bind fun z => .ok ((fLst D.str) z)).bind fun b17 => (rawB (dEq found15 b17))) else .ok false)
theorem r_l_told : CallR F_l_told (qC (eQ (qC eD (q1 eI))) (qC (eO eI) (q1 eI))) (fun (a : (D × Int) × (Option Int) × Int) => t_l_told a.1 a.2.1 a.2.2) eB := by
  rintro ⟨view, wide, deep⟩ _ ⟨d0, _, rfl, h0, ⟨d1, _, rfl, h1, ⟨d2, rfl, h2⟩⟩⟩
  refine r_def (n := 3) (m := 7) (k := 4) (ρ := ([some (sh (eQ (qC eD (q1 eI))) view), some (sh (eO eI) wide), some (sh eI deep)] : KEnv)) (LeA.cons h0 (LeA.cons h1 (LeA.cons h2 LeA.nil))) rfl ?_
  exact (j_do (d_set (al := []) (c_width_of (vq_cp (v_opp ((o_ixQ (k := 0) IxQ.z) _) (v_s (E := (eQ (qC eD (q1 eI)))) (a := view) (i := 0) rfl) (vN 0)) (vq_1 (v_opp ((o_ixQ (k := 1) (IxQ.s IxQ.l)) _) (v_s (E := (eQ (qC eD (q1 eI)))) (a := view) (i := 0) rfl) (vN 1)))))) (fun found1 => (j_ifs (al := []) (b_or (b_andM (b_test (v_opp ((o_isN (nn_I)) _ _) (v_s (E := (eO eI)) (a := wide) (i := 1) rfl) (v_c (E := eN) (a := ()) rfl))) (b_test (v_opp ((o_rawB dIsNot) _ _) (v_s (E := eD) (a := found1) (i := 3) rfl) (v_castF (f := (fun _ => D.non)) Fun.non (v_c (E := eN) (a := ()) rfl))))) (b_andM (b_test (v_opp ((o_isnt (nn_I)) _ _) (v_s (E := (eO eI)) (a := wide) (i := 1) rfl) (v_c (E := eN) (a := ()) rfl))) (b_or (b_not (b_truB (c_l_whole (vq_1 (v_s (E := eD) (a := found1) (i := 3) rfl))))) (b_test (v_opp ((o_rawB dNe) _ _) (v_s (E := eD) (a := found1) (i := 3) rfl) (v_castF (f := (fOpt D.int)) (Fun.opt Fun.int) (v_s (E := (eO eI)) (a := wide) (i := 1) rfl))))))) (j_assoc (j_retT (v_c (E := eB) (a := false) rfl))) (j_skip (j_ifs (al := []) (b_or (b_not (b_truB (m_l_whole (vq_1 (v_mapF (f := D.int) Fun.int (c_view_depth (vq_1 (v_opp ((o_ixQ (k := 0) IxQ.z) _) (v_s (E := (eQ (qC eD (q1 eI)))) (a := view) (i := 0) rfl) (vN 0))))))))) (b_test (v_op (o_ne (EqE.int _)) (c_view_depth (vq_1 (v_opp ((o_ixQ (k := 0) IxQ.z) _) (v_s (E := (eQ (qC eD (q1 eI)))) (a := view) (i := 0) rfl) (vN 0)))) (v_s (E := eI) (a := deep) (i := 2) rfl)))) (j_assoc (j_retT (v_c (E := eB) (a := false) rfl))) (j_skip (j_do (d_setF (al := []) v_dnew) (fun due5 => (j_do (d_for (al := []) (ρs := fun (s6 : ((List (Str × Bool)))) => ([some (sh (eQ (qC eD (q1 eI))) view), some (sh (eO eI) wide), some (sh eI deep), some (sh eD found1), some (ow (eM false D.str eB) s6), none, none] : KEnv)) (ρb := fun term_here7 (s6 : ((List (Str × Bool)))) => ([some (sh (eQ (qC eD (q1 eI))) view), some (sh (eO eI) wide), some (sh eI deep), some (sh eD found1), some (ow (eM false D.str eB) s6), some (sh eD term_here7), none] : KEnv)) (v_seqL (c_l_terms (vq_1 (v_opp ((o_ixQ (k := 0) IxQ.z) _) (v_s (E := (eQ (qC eD (q1 eI)))) (a := view) (i := 0) rfl) (vN 0))))) (Sb.same (Sb.same (Sb.same (Sb.same (Sb.same (Sb.drop (Sb.drop Sb.nil))))))) (fun term_here7 s6 => (p_nm (i := 5))) (fun term_here7 s6 => (j_do (d_for (al := []) (ρs := fun (s8 : ((List (Str × Bool)))) => ([some (sh (eQ (qC eD (q1 eI))) view), some (sh (eO eI) wide), some (sh eI deep), some (sh eD found1), some (ow (eM false D.str eB) s8), some (sh eD term_here7), none] : KEnv)) (ρb := fun name9 (s8 : ((List (Str × Bool)))) => ([some (sh (eQ (qC eD (q1 eI))) view), some (sh (eO eI) wide), some (sh eI deep), some (sh eD found1), some (ow (eM false D.str eB) s8), some (sh eD term_here7), some (sh eD name9)] : KEnv)) (v_seqL (c_names_in (vq_1 (v_s (E := eD) (a := term_here7) (i := 5) rfl)))) (Sb.same (Sb.same (Sb.same (Sb.same (Sb.same (Sb.same (Sb.drop Sb.nil))))))) (fun name9 s8 => (p_nm (i := 6))) (fun name9 s8 => (j_do (ρs := fun due10 => ([some (sh (eQ (qC eD (q1 eI))) view), some (sh (eO eI) wide), some (sh eI deep), some (sh eD found1), some (ow (eM false D.str eB) due10), some (sh eD term_here7), some (sh eD name9)] : KEnv)) (d_putD KeyF.str (al := []) rfl (v_keyS (v_asS (v_s (E := eD) (a := name9) (i := 6) rfl))) (v_c (E := eB) (a := true) rfl)) (fun due10 => (j_endB (Sb.same (Sb.same (Sb.same (Sb.same (Sb.same (Sb.same (Sb.drop Sb.nil)))))))))))) (fun s8 => (j_endB (Sb.same (Sb.same (Sb.same (Sb.same (Sb.same (Sb.drop (Sb.drop Sb.nil)))))))))))) (fun s6 => (j_do (d_set (al := []) (v_mapF (f := (fLst D.str)) (Fun.lst Fun.str) (c_view_names (vq_1 (v_opp ((o_ixQ (k := 0) IxQ.z) _) (v_s (E := (eQ (qC eD (q1 eI)))) (a := view) (i := 0) rfl) (vN 0)))))) (fun found15 => (j_retT (v_and (v_1p ((o_raw1B isList) _) (v_s (E := eD) (a := found15) (i := 3) rfl)) (v_op (o_rawB dEq) (v_s (E := eD) (a := found15) (i := 3) rfl) (v_mapF (f := (fLst D.str)) (Fun.lst Fun.str) (v_1p (o_sortMS _) (v_o (E := (eM false D.str eB)) (a := s6) (i := 4) rfl))))))))))))))))))
theorem c_l_told {ρ : KEnv} {fs : DL.Env → Res (List D)} {x0 : (D × Int)} {x1 : (Option Int)} {x2 : Int} (h : EvR ρ fs (.ok (x0, x1, x2)) (qC (eQ (qC eD (q1 eI))) (qC (eO eI) (q1 eI)))) : EvR ρ (eCall F_l_told fs) (t_l_told x0 x1 x2) eB := v_callp (t := fun a : (D × Int) × (Option Int) × Int => t_l_told a.1 a.2.1 a.2.2) (a := (x0, x1, x2)) r_l_told h
theorem m_l_told {ρ : KEnv} {fs : DL.Env → Res (List D)} {r : Res ((D × Int) × (Option Int) × Int)} (h : EvR ρ fs r (qC (eQ (qC eD (q1 eI))) (qC (eO eI) (q1 eI)))) : EvR ρ (eCall F_l_told fs) (r.bind fun a => t_l_told a.1 a.2.1 a.2.2) eB := v_call (t := fun a : (D × Int) × (Option Int) × Int => t_l_told a.1 a.2.1 a.2.2) r_l_told h
noncomputable def t_l_bad (view : D) (wide : Int) (n : Int) : Res D :=
  (Res.ok (("field" : Str), (wide + ((n / (8 : Int)) % (3 : Int))))).bind fun far1 =>
  (Res.ok [((fPr (fCons D.str (fCons (fPr (fCons D.str (fCons (fPr (fCons D.str (fOne D.int))) (fOne (fPr (fCons D.str (fOne D.int))))))) (fOne (fun d => d))))) (("keep" : Str), (("both" : Str), (("num" : Str), (1 : Int)), far1), view)), ((fPr (fCons D.str (fCons (fPr (fCons D.str (fOne D.int))) (fCons D.int (fOne (fun d => d)))))) (("cap" : Str), far1, (2 : Int), view)), ((fPr (fCons D.str (fCons ans (fCons (fPr (fCons D.str (fOne D.int))) (fOne (fun d => d)))))) (("match" : Str), ([] : List Int), far1, view))]).bind fun some_2 =>
  (appR some_2 ((fPr (fCons D.str (fCons (fPr (fCons (fPr (fOne (fPr (fCons D.str (fOne D.int))))) (fOne (fPr (fOne (fPr (fCons D.str (fOne (fPr (fCons D.str (fOne D.int))))))))))) (fOne (fun d => d))))) (("rows" : Str), ((("num" : Str), (0 : Int)), (("not" : Str), far1)), view))).bind fun some_3 =>
  (appR some_3 ((fPr (fCons D.str (fCons (fPr (fCons (fPr (fOne (fPr (fCons D.str (fOne D.int))))) (fOne (fPr (fCons (fPr (fCons D.str (fOne D.int))) (fOne (fPr (fCons D.str (fOne D.int))))))))) (fOne (fun d => d))))) (("rows" : Str), ((("num" : Str), (0 : Int)), ((("num" : Str), (1 : Int)), (("num" : Str), (2 : Int)))), view))).bind fun some_4 =>
  (appR some_4 ((fPr (fCons D.str (fCons (fPr (fCons (fPr (fCons D.int (fOne ans))) (fCons (fPr (fCons D.int (fOne (fPr (fCons D.int (fOne D.int)))))) (fOne (fPr (fCons D.int (fOne ans))))))) (fCons (fPr (fCons D.str (fOne D.int))) (fOne (fun d => d)))))) (("match" : Str), (((0 : Int), [(1 : Int)]), ((0 : Int), ((1 : Int), (2 : Int))), ((3 : Int), [(4 : Int)])), (("num" : Str), (0 : Int)), view))).bind fun some_5 =>
  ((((((repT [(1 : Int)] ((5 : Int) - wide)).bind fun b10 => .ok ((0 : Int), b10)).bind fun a11 => .ok (a11, (("num" : Str), (0 : Int)), view)).bind fun b14 => .ok (("match" : Str), b14)).bind fun z => .ok ((fPr (fCons D.str (fCons (fPr (fOne (fPr (fCons D.int (fOne ans))))) (fCons (fPr (fCons D.str (fOne D.int))) (fOne (fun d => d)))))) z)).bind fun a15 => appR some_5 a15).bind fun some_6 =>
  (((((((repT [((fPr (fCons D.str (fOne D.int))) (("num" : Str), (0 : Int)))] ((1 : Int) + (wide % (4 : Int)))).bind fun a17 => .ok (a17, view)).bind fun b20 => .ok (("rows" : Str), b20)).bind fun b22 => .ok (view, b22)).bind fun b24 => .ok (("both" : Str), b24)).bind fun z => .ok ((fPr (fCons D.str (fCons (fun d => d) (fOne (fPr (fCons D.str (fCons (fPr (fOne (fTup (fun d => d)))) (fOne (fun d => d))))))))) z)).bind fun a25 => appR some_6 a25).bind fun some_16 =>
  (getL some_16 (n % (8 : Int)))
theorem r_l_bad : CallR F_l_bad (qC eD (qC eI (q1 eI))) (fun (a : D × Int × Int) => t_l_bad a.1 a.2.1 a.2.2) eD := by
  rintro ⟨view, wide, n⟩ _ ⟨d0, _, rfl, h0, ⟨d1, _, rfl, h1, ⟨d2, rfl, h2⟩⟩⟩
  refine r_def (n := 3) (m := 5) (k := 2) (ρ := ([some (sh eD view), some (sh eI wide), some (sh eI n)] : KEnv)) (LeA.cons h0 (LeA.cons h1 (LeA.cons h2 LeA.nil))) rfl ?_
  exact (j_do (d_set (al := []) (v_tupQ (vq_cp (v_c (E := eS) (a := ("field" : Str)) rfl) (vq_1 (v_opp (o_add _ _) (v_s (E := eI) (a := wide) (i := 1) rfl) (v_opp (o_modL _ (by decide)) (v_opp (o_divL _ (by decide) (by decide)) (v_s (E := eI) (a := n) (i := 2) rfl) (vN 8)) (vN 3))))))) (fun far1 => (j_do (d_setF (al := []) (v_lst (vl_cp (v_castF (f := (fPr (fCons D.str (fCons (fPr (fCons D.str (fCons (fPr (fCons D.str (fOne D.int))) (fOne (fPr (fCons D.str (fOne D.int))))))) (fOne (fun d => d)))))) (Fun.pr (FunQ.c Fun.str (FunQ.c (Fun.pr (FunQ.c Fun.str (FunQ.c (Fun.pr (FunQ.c Fun.str (FunQ.one Fun.int))) (FunQ.one (Fun.pr (FunQ.c Fun.str (FunQ.one Fun.int))))))) (FunQ.one Fun.raw)))) (v_tupQ (vq_cp (v_c (E := eS) (a := ("keep" : Str)) rfl) (vq_cp (v_tupQ (vq_cp (v_c (E := eS) (a := ("both" : Str)) rfl) (vq_cp (v_tupQ (vq_cp (v_c (E := eS) (a := ("num" : Str)) rfl) (vq_1 (vN 1)))) (vq_1 (v_s (E := (eQ (qC eS (q1 eI)))) (a := far1) (i := 3) rfl))))) (vq_1 (v_s (E := eD) (a := view) (i := 0) rfl)))))) (vl_cp (v_castF (f := (fPr (fCons D.str (fCons (fPr (fCons D.str (fOne D.int))) (fCons D.int (fOne (fun d => d))))))) (Fun.pr (FunQ.c Fun.str (FunQ.c (Fun.pr (FunQ.c Fun.str (FunQ.one Fun.int))) (FunQ.c Fun.int (FunQ.one Fun.raw))))) (v_tupQ (vq_cp (v_c (E := eS) (a := ("cap" : Str)) rfl) (vq_cp (v_s (E := (eQ (qC eS (q1 eI)))) (a := far1) (i := 3) rfl) (vq_cp (vN 2) (vq_1 (v_s (E := eD) (a := view) (i := 0) rfl))))))) (vl_cp (v_castF (f := (fPr (fCons D.str (fCons ans (fCons (fPr (fCons D.str (fOne D.int))) (fOne (fun d => d))))))) (Fun.pr (FunQ.c Fun.str (FunQ.c Fun.row (FunQ.c (Fun.pr (FunQ.c Fun.str (FunQ.one Fun.int))) (FunQ.one Fun.raw))))) (v_tupQ (vq_cp (v_c (E := eS) (a := ("match" : Str)) rfl) (vq_cp (v_tupR (vl_nil (E := eI))) (vq_cp (v_s (E := (eQ (qC eS (q1 eI)))) (a := far1) (i := 3) rfl) (vq_1 (v_s (E := eD) (a := view) (i := 0) rfl))))))) vl_nil))))) (fun some_2 => (j_do (d_appP (al := []) rfl (v_castF (f := (fPr (fCons D.str (fCons (fPr (fCons (fPr (fOne (fPr (fCons D.str (fOne D.int))))) (fOne (fPr (fOne (fPr (fCons D.str (fOne (fPr (fCons D.str (fOne D.int))))))))))) (fOne (fun d => d)))))) (Fun.pr (FunQ.c Fun.str (FunQ.c (Fun.pr (FunQ.c (Fun.pr (FunQ.one (Fun.pr (FunQ.c Fun.str (FunQ.one Fun.int))))) (FunQ.one (Fun.pr (FunQ.one (Fun.pr (FunQ.c Fun.str (FunQ.one (Fun.pr (FunQ.c Fun.str (FunQ.one Fun.int))))))))))) (FunQ.one Fun.raw)))) (v_tupQ (vq_cp (v_c (E := eS) (a := ("rows" : Str)) rfl) (vq_cp (v_tupQ (vq_cp (v_tupQ (vq_1 (v_tupQ (vq_cp (v_c (E := eS) (a := ("num" : Str)) rfl) (vq_1 (vN 0)))))) (vq_1 (v_tupQ (vq_1 (v_tupQ (vq_cp (v_c (E := eS) (a := ("not" : Str)) rfl) (vq_1 (v_s (E := (eQ (qC eS (q1 eI)))) (a := far1) (i := 3) rfl))))))))) (vq_1 (v_s (E := eD) (a := view) (i := 0) rfl))))))) (fun some_3 => (j_do (d_appP (al := []) rfl (v_castF (f := (fPr (fCons D.str (fCons (fPr (fCons (fPr (fOne (fPr (fCons D.str (fOne D.int))))) (fOne (fPr (fCons (fPr (fCons D.str (fOne D.int))) (fOne (fPr (fCons D.str (fOne D.int))))))))) (fOne (fun d => d)))))) (Fun.pr (FunQ.c Fun.str (FunQ.c (Fun.pr (FunQ.c (Fun.pr (FunQ.one (Fun.pr (FunQ.c Fun.str (FunQ.one Fun.int))))) (FunQ.one (Fun.pr (FunQ.c (Fun.pr (FunQ.c Fun.str (FunQ.one Fun.int))) (FunQ.one (Fun.pr (FunQ.c Fun.str (FunQ.one Fun.int))))))))) (FunQ.one Fun.raw)))) (v_tupQ (vq_cp (v_c (E := eS) (a := ("rows" : Str)) rfl) (vq_cp (v_tupQ (vq_cp (v_tupQ (vq_1 (v_tupQ (vq_cp (v_c (E := eS) (a := ("num" : Str)) rfl) (vq_1 (vN 0)))))) (vq_1 (v_tupQ (vq_cp (v_tupQ (vq_cp (v_c (E := eS) (a := ("num" : Str)) rfl) (vq_1 (vN 1)))) (vq_1 (v_tupQ (vq_cp (v_c (E := eS) (a := ("num" : Str)) rfl) (vq_1 (vN 2)))))))))) (vq_1 (v_s (E := eD) (a := view) (i := 0) rfl))))))) (fun some_4 => (j_do (d_appP (al := []) rfl (v_castF (f := (fPr (fCons D.str (fCons (fPr (fCons (fPr (fCons D.int (fOne ans))) (fCons (fPr (fCons D.int (fOne (fPr (fCons D.int (fOne D.int)))))) (fOne (fPr (fCons D.int (fOne ans))))))) (fCons (fPr (fCons D.str (fOne D.int))) (fOne (fun d => d))))))) (Fun.pr (FunQ.c Fun.str (FunQ.c (Fun.pr (FunQ.c (Fun.pr (FunQ.c Fun.int (FunQ.one Fun.row))) (FunQ.c (Fun.pr (FunQ.c Fun.int (FunQ.one (Fun.pr (FunQ.c Fun.int (FunQ.one Fun.int)))))) (FunQ.one (Fun.pr (FunQ.c Fun.int (FunQ.one Fun.row))))))) (FunQ.c (Fun.pr (FunQ.c Fun.str (FunQ.one Fun.int))) (FunQ.one Fun.raw))))) (v_tupQ (vq_cp (v_c (E := eS) (a := ("match" : Str)) rfl) (vq_cp (v_tupQ (vq_cp (v_tupQ (vq_cp (vN 0) (vq_1 (v_tupR (vl_cp (vN 1) vl_nil))))) (vq_cp (v_tupQ (vq_cp (vN 0) (vq_1 (v_tupQ (vq_cp (vN 1) (vq_1 (vN 2))))))) (vq_1 (v_tupQ (vq_cp (vN 3) (vq_1 (v_tupR (vl_cp (vN 4) vl_nil))))))))) (vq_cp (v_tupQ (vq_cp (v_c (E := eS) (a := ("num" : Str)) rfl) (vq_1 (vN 0)))) (vq_1 (v_s (E := eD) (a := view) (i := 0) rfl)))))))) (fun some_5 => (j_do (d_app (al := []) rfl (v_mapF (f := (fPr (fCons D.str (fCons (fPr (fOne (fPr (fCons D.int (fOne ans))))) (fCons (fPr (fCons D.str (fOne D.int))) (fOne (fun d => d))))))) (Fun.pr (FunQ.c Fun.str (FunQ.c (Fun.pr (FunQ.one (Fun.pr (FunQ.c Fun.int (FunQ.one Fun.row))))) (FunQ.c (Fun.pr (FunQ.c Fun.str (FunQ.one Fun.int))) (FunQ.one Fun.raw))))) (v_tupQ (vq_c (v_c (E := eS) (a := ("match" : Str)) rfl) (vq_c (v_tupQ (vq_1 (v_tupQ (vq_c (vN 0) (vq_1 (v_opp (o_repR _ _) (v_tupR (vl_cp (vN 1) vl_nil)) (v_opp (o_sub _ _) (vN 5) (v_s (E := eI) (a := wide) (i := 1) rfl)))))))) (vq_cp (v_tupQ (vq_cp (v_c (E := eS) (a := ("num" : Str)) rfl) (vq_1 (vN 0)))) (vq_1 (v_s (E := eD) (a := view) (i := 0) rfl)))))))) (fun some_6 => (j_do (d_app (al := []) rfl (v_mapF (f := (fPr (fCons D.str (fCons (fun d => d) (fOne (fPr (fCons D.str (fCons (fPr (fOne (fTup (fun d => d)))) (fOne (fun d => d)))))))))) (Fun.pr (FunQ.c Fun.str (FunQ.c Fun.raw (FunQ.one (Fun.pr (FunQ.c Fun.str (FunQ.c (Fun.pr (FunQ.one (Fun.tup Fun.raw))) (FunQ.one Fun.raw)))))))) (v_tupQ (vq_c (v_c (E := eS) (a := ("both" : Str)) rfl) (vq_c (v_s (E := eD) (a := view) (i := 0) rfl) (vq_1 (v_tupQ (vq_c (v_c (E := eS) (a := ("rows" : Str)) rfl) (vq_c (v_tupQ (vq_1 (v_opp (o_repT _ _) (v_tupT (vl_cp (v_castF (f := (fPr (fCons D.str (fOne D.int)))) (Fun.pr (FunQ.c Fun.str (FunQ.one Fun.int))) (v_tupQ (vq_cp (v_c (E := eS) (a := ("num" : Str)) rfl) (vq_1 (vN 0))))) vl_nil)) (v_opp (o_add _ _) (vN 1) (v_opp (o_modL _ (by decide)) (v_s (E := eI) (a := wide) (i := 1) rfl) (vN 4)))))) (vq_1 (v_s (E := eD) (a := view) (i := 0) rfl))))))))))) (fun some_16 => (j_retT (v_opp (o_ixAL _ _) (v_o (E := (eL eD)) (a := some_16) (i := 4) rfl) (v_opp (o_modL _ (by decide)) (v_s (E := eI) (a := n) (i := 2) rfl) (vN 8))))))))))))))))))
theorem c_l_bad {ρ : KEnv} {fs : DL.Env → Res (List D)} {x0 : D} {x1 : Int} {x2 : Int} (h : EvR ρ fs (.ok (x0, x1, x2)) (qC eD (qC eI (q1 eI)))) : EvR ρ (eCall F_l_bad fs) (t_l_bad x0 x1 x2) eD := v_callp (t := fun a : D × Int × Int => t_l_bad a.1 a.2.1 a.2.2) (a := (x0, x1, x2)) r_l_bad h
theorem m_l_bad {ρ : KEnv} {fs : DL.Env → Res (List D)} {r : Res (D × Int × Int)} (h : EvR ρ fs r (qC eD (qC eI (q1 eI)))) : EvR ρ (eCall F_l_bad fs) (r.bind fun a => t_l_bad a.1 a.2.1 a.2.2) eD := v_call (t := fun a : D × Int × Int => t_l_bad a.1 a.2.1 a.2.2) r_l_bad h
noncomputable def t_law (script : (List Int)) : Res Bool :=
  (((t_l_cell_at script (0 : Int)).bind fun a1 => .ok (a1 % (4 : Int))).bind fun b3 => .ok ((1 : Int) + b3)).bind fun width4 =>
  thenX ((rng3 (0 : Int) (max (1 : Int) ((script.length : Nat) : Int)) (3 : Int)).bind fun l24 => forX l24 () (fun k6 s5 =>
  thenX ((t_l_views (cutL script (some k6) (some (k6 + (3 : Int)))) width4).bind fun l23 => forX l23 () (fun z8 s7 =>
  ((t_l_told (z8.1, width4) (some z8.2.1) z8.2.2.2.2).bind fun z => .ok (!z)).bind fun z => if z = true then
  Res.ok (.rt false)
else
  (((t_l_cell_at script k6).bind fun a9 => .ok (a9 + z8.2.2.2.2)).bind fun a13 => t_l_mix a13 (390 : Int)).bind fun n15 =>
  (t_l_bad z8.1 z8.2.1 n15).bind fun bad_here16 =>
  ((((dIx bad_here16 (D.int (0 : Int))).bind fun a17 => (rawB (dEq a17 (D.str ("both" : Str))))).bind fun a19 => .ok (if a19 = true then 1 else 0)).bind fun b21 => .ok ((z8.2.2.2.2 + (1 : Int)) + b21)).bind fun deeper22 =>
  if (5 : Int) < deeper22 then
  Res.ok (.nx ())
else
  ((t_l_told (bad_here16, width4) none deeper22).bind fun z => .ok (!z)).bind fun z => if z = true then
  Res.ok (.rt false)
else
  ((t_l_told (((fPr (fCons D.str (fOne (fun d => d)))) (("unlike" : Str), bad_here16)), width4) none (deeper22 + (1 : Int))).bind fun z => .ok (!z)).bind fun z => if z = true then
  Res.ok (.rt false)
else
  Res.ok (.nx ())) : Res (Oc Unit Bool)) .rt fun s7 =>
  Res.ok (.nx ())) : Res (Oc Unit Bool)) (fun v => v) fun s5 =>
  Res.ok true
theorem r_law : CallR F_law (q1 (eL eI)) (fun (a : (List Int)) => t_law a) eB := by
  rintro script _ ⟨d0, rfl, h0⟩
  refine r_def (n := 1) (m := 11) (k := 10) (ρ := ([some (sh (eL eI) script)] : KEnv)) (LeA.cons h0 LeA.nil) rfl ?_
  exact (j_do (d_set (al := []) (v_op o_add (vN 1) (v_opl (fun a => o_modL a (by decide)) (c_l_cell_at (vq_cp (v_s (E := (eL eI)) (a := script) (i := 0) rfl) (vq_1 (vN 0)))) (vN 4)))) (fun width4 => (j_xT (d_forX (E' := eB) (al := []) (ρs := fun (s5 : Unit) => ([some (sh (eL eI) script), some (sh eI width4), none, none, none, none, none, none, none, none, none] : KEnv)) (ρb := fun k6 (s5 : Unit) => ([some (sh (eL eI) script), some (sh eI width4), some (sh eI k6), none, none, none, none, none, none, none, none] : KEnv)) (v_rng3p (vN 0) (v_opp (o_max _ _) (vN 1) (v_1p (o_lenL _) (v_s (E := (eL eI)) (a := script) (i := 0) rfl))) (vN 3)) (Sb.same (Sb.same (Sb.drop (Sb.drop (Sb.drop (Sb.drop (Sb.drop (Sb.drop (Sb.drop (Sb.drop (Sb.drop Sb.nil))))))))))) (fun k6 s5 => (p_nm (i := 2))) (fun k6 s5 => (j_xL (d_forX (E' := eB) (al := []) (ρs := fun (s7 : Unit) => ([some (sh (eL eI) script), some (sh eI width4), some (sh eI k6), none, none, none, none, none, none, none, none] : KEnv)) (ρb := fun z8 (s7 : Unit) => ([some (sh (eL eI) script), some (sh eI width4), some (sh eI k6), some (sh eD z8.1), some (sh eI z8.2.1), some (sh eI z8.2.2.1), some (sh eB z8.2.2.2.1), some (sh eI z8.2.2.2.2), none, none, none] : KEnv)) (v_seqL (c_l_views (vq_cp (v_cutL (v_s (E := (eL eI)) (a := script) (i := 0) rfl) (vo_s (v_s (E := eI) (a := k6) (i := 2) rfl)) (vo_s (v_opp (o_add _ _) (v_s (E := eI) (a := k6) (i := 2) rfl) (vN 3)))) (vq_1 (v_s (E := eI) (a := width4) (i := 1) rfl))))) (Sb.same (Sb.same (Sb.same (Sb.drop (Sb.drop (Sb.drop (Sb.drop (Sb.drop (Sb.drop (Sb.drop (Sb.drop Sb.nil))))))))))) (fun z8 s7 => (p_tp (ps_c' (p_nm (i := 3)) (ps_c' (p_nm (i := 4)) (ps_c' (p_nm (i := 5)) (ps_c' (p_nm (i := 6)) (ps_1 (p_nm (i := 7))))))))) (fun z8 s7 => (j_ifs (al := []) (b_not (b_truB (c_l_told (vq_cp (v_tupQ (vq_cp (v_s (E := eD) (a := z8.1) (i := 3) rfl) (vq_1 (v_s (E := eI) (a := width4) (i := 1) rfl)))) (vq_cp (v_cast (E' := (eO eI)) (c := some z8.2.1) (v_s (E := eI) (a := z8.2.1) (i := 4) rfl) fun _ h => h) (vq_1 (v_s (E := eI) (a := z8.2.2.2.2) (i := 7) rfl))))))) (j_assoc (j_retL (v_c (E := eB) (a := false) rfl))) (j_skip (j_do (d_set (al := []) (v_eqr (r := (((t_l_cell_at script k6).bind fun a9 => .ok (a9 + z8.2.2.2.2)).bind fun a11 => .ok (a11, (390 : Int))).bind fun a => t_l_mix a.1 a.2) (m_l_mix (vq_c (v_op o_add (c_l_cell_at (vq_cp (v_s (E := (eL eI)) (a := script) (i := 0) rfl) (vq_1 (v_s (E := eI) (a := k6) (i := 2) rfl)))) (v_s (E := eI) (a := z8.2.2.2.2) (i := 7) rfl)) (vq_1 (vN 390)))) (by first | (simp only [Res.assoc, Res.bind_ok]; done) | (simp only [Res.assoc, Res.bind_ok]; rfl)))) (fun n15 => (j_do (d_set (al := []) (c_l_bad (vq_cp (v_s (E := eD) (a := z8.1) (i := 3) rfl) (vq_cp (v_s (E := eI) (a := z8.2.1) (i := 4) rfl) (vq_1 (v_s (E := eI) (a := n15) (i := 8) rfl)))))) (fun bad_here16 => (j_do (d_set (al := []) (v_op o_add (v_opp (o_add _ _) (v_s (E := eI) (a := z8.2.2.2.2) (i := 7) rfl) (vN 1)) (v_1 o_intB (v_op (o_rawB dEq) (v_opp ((o_raw dIx) _ _) (v_s (E := eD) (a := bad_here16) (i := 9) rfl) (vI 0)) (vT ("both" : Str)))))) (fun deeper22 => (j_ifsP (al := []) (b_test (v_opp (o_gt _ _) (v_s (E := eI) (a := deeper22) (i := 10) rfl) (vN 5))) (j_assoc (j_contL (Sb.same (Sb.same (Sb.same (Sb.drop (Sb.drop (Sb.drop (Sb.drop (Sb.drop (Sb.drop (Sb.drop (Sb.drop Sb.nil))))))))))))) (j_skip (j_ifs (al := []) (b_not (b_truB (c_l_told (vq_cp (v_tupQ (vq_cp (v_s (E := eD) (a := bad_here16) (i := 9) rfl) (vq_1 (v_s (E := eI) (a := width4) (i := 1) rfl)))) (vq_cp (v_cast (v_c (E := eN) (a := ()) rfl) fun _ h => h) (vq_1 (v_s (E := eI) (a := deeper22) (i := 10) rfl))))))) (j_assoc (j_retL (v_c (E := eB) (a := false) rfl))) (j_skip (j_ifs (al := []) (b_not (b_truB (c_l_told (vq_cp (v_tupQ (vq_cp (v_castF (f := (fPr (fCons D.str (fOne (fun d => d))))) (Fun.pr (FunQ.c Fun.str (FunQ.one Fun.raw))) (v_tupQ (vq_cp (v_c (E := eS) (a := ("unlike" : Str)) rfl) (vq_1 (v_s (E := eD) (a := bad_here16) (i := 9) rfl))))) (vq_1 (v_s (E := eI) (a := width4) (i := 1) rfl)))) (vq_cp (v_cast (v_c (E := eN) (a := ()) rfl) fun _ h => h) (vq_1 (v_opp (o_add _ _) (v_s (E := eI) (a := deeper22) (i := 10) rfl) (vN 1)))))))) (j_assoc (j_retL (v_c (E := eB) (a := false) rfl))) (j_skip (j_endL (Sb.same (Sb.same (Sb.same (Sb.drop (Sb.drop (Sb.drop (Sb.drop (Sb.drop (Sb.drop (Sb.drop (Sb.drop Sb.nil)))))))))))))))))))))))))))) (fun s7 => (j_endL (Sb.same (Sb.same (Sb.drop (Sb.drop (Sb.drop (Sb.drop (Sb.drop (Sb.drop (Sb.drop (Sb.drop (Sb.drop Sb.nil)))))))))))))))) (fun s5 => (j_retT (v_c (E := eB) (a := true) rfl))))))
theorem c_law {ρ : KEnv} {fs : DL.Env → Res (List D)} {x0 : (List Int)} (h : EvR ρ fs (.ok x0) (q1 (eL eI))) : EvR ρ (eCall F_law fs) (t_law x0) eB := v_callp (t := fun a : (List Int) => t_law a) (a := x0) r_law h
theorem m_law {ρ : KEnv} {fs : DL.Env → Res (List D)} {r : Res ((List Int))} (h : EvR ρ fs r (q1 (eL eI))) : EvR ρ (eCall F_law fs) (r.bind fun a => t_law a) eB := v_call (t := fun a : (List Int) => t_law a) r_law h
/-! ### the drawn numbers -/
theorem sq_le {k n : Int} (h : 0 ≤ k) (h1 : k ≤ n) : 0 ≤ k * k ∧ k * k ≤ n * n := ⟨Int.mul_nonneg h h, Int.mul_le_mul h1 h1 h (by omega)⟩
theorem mix_ok {cell k : Int} (hc : Sm 1048700 cell) (h0 : 0 ≤ k) (h1 : k ≤ 1000000) : Ok (t_l_mix cell k) fun u => 0 ≤ u ∧ u < 2147483629 := by
  unfold t_l_mix
  have q := sq_le (show 0 ≤ k + 1 by omega) (show k + 1 ≤ 1000001 by omega)
  rw [mulR_l hc (by decide) (by decide) (by decide), mulR_s (by omega) (by omega) (by omega) (by omega)]
  simp only [Res.bind_ok]
  rw [mulR_s (by omega) (by omega) (by omega) (by omega)]
  simp only [Res.bind_ok]
  have r0 := Int.emod_nonneg (cell * 48271 + (k + 1) * (k + 1) * 69621) (b := 2147483647) (by decide)
  have r1 := Int.emod_lt_of_pos (cell * 48271 + (k + 1) * (k + 1) * 69621) (b := 2147483647) (by decide)
  generalize (cell * 48271 + (k + 1) * (k + 1) * 69621) % 2147483647 = u at *
  rw [mulR_s (by omega) (by omega) (by omega) (by omega)]
  exact ⟨_, rfl, Int.emod_nonneg _ (by decide), Int.emod_lt_of_pos _ (by decide)⟩
/-- a number within the bounds -/
def InB (v : Int) : Prop := -1000000000000000000 ≤ v ∧ v ≤ 1000000000000000000
theorem number_ok {cell k many : Int} (hc : Sm 1048700 cell) (h0 : 0 ≤ k) (h1 : k ≤ 1000000) (m0 : 0 < many) (m1 : many ≤ 1000) : Ok (t_l_number cell k many) InB := by
  unfold t_l_number
  refine (mix_ok hc h0 h1).bind fun n hn => Ok.ite (fun _ => ?_) fun _ => ?_
  · rw [mulR_s (by decide) (by decide) (by decide) (by decide)]
    simp only [Res.bind_ok]
    rw [modR_pos (by decide)]
    refine ⟨_, rfl, ?_⟩
    unfold InB
    omega
  · rw [modR_pos m0]
    refine ⟨_, rfl, ?_⟩
    have a := Int.emod_nonneg (n / 5) (show many ≠ 0 by omega)
    have b := Int.emod_lt_of_pos (n / 5) m0
    unfold InB
    omega
theorem cell_at_eq (s : List Int) (k : Int) (h : 0 ≤ k) : t_l_cell_at s k = .ok (s.getD k.toNat 0) := by
  unfold t_l_cell_at
  obtain ⟨k, rfl⟩ := Int.eq_ofNat_of_zero_le h
  split
  · rename_i hk
    have hk : k < s.length := by omega
    rw [getL_nat (a := s[k]) (List.getElem?_eq_getElem hk)]
    simp [hk]
  · rename_i hk
    have hk : s.length ≤ k := by omega
    simp [hk]
theorem cell_sm {s : List Int} {n : Nat} (h : ∀ z ∈ s, Sm n z) (k : Nat) : Sm n (s.getD k 0) := by
  by_cases hk : k < s.length
  · rw [List.getD_eq_getElem?_getD, List.getElem?_eq_getElem hk]; exact h _ (List.getElem_mem _)
  · rw [List.getD_eq_getElem?_getD, List.getElem?_eq_none (by omega)]
    show (0 : Int).natAbs < _
    exact Nat.two_pow_pos _
/-! ### what a drawn good program is: terms, views, measures, statements, told as data -/
def binOps : List Str := ["add", "sub", "less", "same", "mul", "quo", "both", "any"]
/-- a term over w fields and these names, at most n deep -/
inductive TOk (w : Nat) (kn : List Str) : Nat → D → Prop
  | num {n : Nat} {i : Int} (h : -1000000000000000000 ≤ i ∧ i ≤ 1000000000000000000) : TOk w kn (n + 1) (.tup [.str "num", .int i])
  | field {n k : Nat} (h : k < w) : TOk w kn (n + 1) (.tup [.str "field", .int k])
  | name {n : Nat} {x : Str} (h : x ∈ kn) : TOk w kn (n + 1) (.tup [.str "name", .str x])
  | un {n : Nat} {a : D} (h : TOk w kn n a) : TOk w kn (n + 1) (.tup [.str "not", a])
  | bin {n : Nat} {o : Str} {a b : D} (ho : o ∈ binOps) (h : TOk w kn n a) (k : TOk w kn n b) : TOk w kn (n + 1) (.tup [.str o, a, b])
  | pick {n : Nat} {a b c : D} (h : TOk w kn n a) (k : TOk w kn n b) (l : TOk w kn n c) : TOk w kn (n + 1) (.tup [.str "pick", a, b, c])
theorem TOk.up {w : Nat} {kn : List Str} : ∀ {n m : Nat} {t : D}, TOk w kn n t → n ≤ m → TOk w kn m t := by
  intro n m t h
  induction h generalizing m with
  | num h => intro l; obtain ⟨m, rfl⟩ : ∃ k, m = k + 1 := ⟨m - 1, by omega⟩; exact .num h
  | field h => intro l; obtain ⟨m, rfl⟩ : ∃ k, m = k + 1 := ⟨m - 1, by omega⟩; exact .field h
  | name h => intro l; obtain ⟨m, rfl⟩ : ∃ k, m = k + 1 := ⟨m - 1, by omega⟩; exact .name h
  | un h ih => intro l; obtain ⟨m, rfl⟩ : ∃ k, m = k + 1 := ⟨m - 1, by omega⟩; exact .un (ih (by omega))
  | bin ho h k ih ik => intro l; obtain ⟨m, rfl⟩ : ∃ k, m = k + 1 := ⟨m - 1, by omega⟩; exact .bin ho (ih (by omega)) (ik (by omega))
  | pick h k l ih ik il => intro l; obtain ⟨m, rfl⟩ : ∃ k, m = k + 1 := ⟨m - 1, by omega⟩; exact .pick (ih (by omega)) (ik (by omega)) (il (by omega))
def pairP (p : Int × List Int) : D := .tup [.int p.1, ans p.2]
/-- how often the most common key stands there -/
def MostK (ns : List Int) (q : Nat) : Prop := (∀ w, ns.count w ≤ q) ∧ ∃ w, w ∈ ns ∧ ns.count w = q
/-- a view of w fields, at most n deep: how wide, how far it stretches, whether it grows -/
inductive VOk (w : Nat) (kn : List Str) : Nat → D → Nat → Nat → Bool → Prop
  | all {n : Nat} : VOk w kn (n + 1) (.tup [.str "all"]) w 1 true
  | keep {n W c : Nat} {g : Bool} {t v : D} (ht : TOk W kn 3 t) (h : VOk w kn n v W c g) : VOk w kn (n + 1) (.tup [.str "keep", t, v]) W c g
  | unlike {n W c : Nat} {g : Bool} {v : D} (h : VOk w kn n v W c g) : VOk w kn (n + 1) (.tup [.str "unlike", v]) W c g
  | cap {n W c : Nat} {g : Bool} {k : Int} {t v : D} (hk : 1 ≤ k ∧ k ≤ 3) (ht : TOk W kn 3 t) (h : VOk w kn n v W c g) : VOk w kn (n + 1) (.tup [.str "cap", t, .int k, v]) W (2 * c) false
  | rows {n W c d : Nat} {g : Bool} {Ls : List (List D)} {v : D} (hd : d = 1 ∨ d = 2) (hl : Ls.length = 1 ∨ Ls.length = 2) (ht : ∀ L ∈ Ls, L.length = d ∧ ∀ t ∈ L, TOk W kn 3 t) (h : VOk w kn n v W c g) : VOk w kn (n + 1) (.tup [.str "rows", .tup (Ls.map D.tup), v]) d (Ls.length * c) g
  | both {n W c : Nat} {g : Bool} {t v : D} (ht : TOk W kn 3 t) (h : VOk w kn n v W c g) : VOk w kn (n + 2) (.tup [.str "both", v, .tup [.str "keep", t, v]]) W (2 * c) g
  | mtch {n W c d q : Nat} {g : Bool} {ps : List (Int × List Int)} {t v : D} (hd : d = 1 ∨ d = 2) (hW : W + d ≤ 4) (hl : 1 ≤ ps.length ∧ ps.length ≤ 3) (hp : ∀ p ∈ ps, (0 ≤ p.1 ∧ p.1 ≤ 2) ∧ p.2.length = d ∧ ∀ z ∈ p.2, -1000000000000000000 ≤ z ∧ z ≤ 1000000000000000000) (hq : MostK (ps.map (·.1)) q) (ht : TOk W kn 3 t) (h : VOk w kn n v W c g) :
      VOk w kn (n + 1) (.tup [.str "match", .tup (ps.map pairP), t, v]) (W + d) (q * c) g
theorem VOk.up {w : Nat} {kn : List Str} {n m : Nat} {v : D} {W c : Nat} {g : Bool} (h : VOk w kn n v W c g) : n ≤ m → VOk w kn m v W c g := by
  induction h generalizing m with
  | all => intro l; obtain ⟨m, rfl⟩ : ∃ k, m = k + 1 := ⟨m - 1, by omega⟩; exact .all
  | keep ht h ih => intro l; obtain ⟨m, rfl⟩ : ∃ k, m = k + 1 := ⟨m - 1, by omega⟩; exact .keep ht (ih (by omega))
  | unlike h ih => intro l; obtain ⟨m, rfl⟩ : ∃ k, m = k + 1 := ⟨m - 1, by omega⟩; exact .unlike (ih (by omega))
  | cap hk ht h ih => intro l; obtain ⟨m, rfl⟩ : ∃ k, m = k + 1 := ⟨m - 1, by omega⟩; exact .cap hk ht (ih (by omega))
  | rows hd hl ht h ih => intro l; obtain ⟨m, rfl⟩ : ∃ k, m = k + 1 := ⟨m - 1, by omega⟩; exact .rows hd hl ht (ih (by omega))
  | both ht h ih => intro l; obtain ⟨m, rfl⟩ : ∃ k, m = k + 2 := ⟨m - 2, by omega⟩; exact .both ht (ih (by omega))
  | mtch hd hW hl hp hq ht h ih => intro l; obtain ⟨m, rfl⟩ : ∃ k, m = k + 1 := ⟨m - 1, by omega⟩; exact .mtch hd hW hl hp hq ht (ih (by omega))
/-- a measure: its reach, whether it grows -/
inductive MOk (w : Nat) (kn : List Str) : D → Nat → Bool → Prop
  | count : MOk w kn (.tup [.str "count"]) 1 true
  | kinds {t : D} (ht : TOk w kn 3 t) : MOk w kn (.tup [.str "kinds", t]) 1 true
  | sum {t : D} {lo hi : Int} (ht : TOk w kn 3 t) (h1 : -3 ≤ lo) (h2 : lo ≤ hi) (h3 : 0 ≤ hi) (h4 : hi ≤ 3) : MOk w kn (.tup [.str "sum", t, .int lo, .int hi]) (max hi (-lo)).toNat (decide (0 ≤ lo))
/-- a choice: its view, its measure, how far it moves, whether it grows -/
def COk (w : Nat) (kn : List Str) (c : D × D × Nat × Bool) : Prop := ∃ W st r gv gm, VOk w kn 5 c.1 W st gv ∧ MOk W kn c.2.1 r gm ∧ c.2.2.1 = r * st ∧ c.2.2.2 = (gv && gm)
def choiceD (c : D × D × Nat × Bool) : D := .tup [c.1, c.2.1]
/-- a: how many askings, how many statements there are ahead -/
abbrev Rel := Nat → Nat × Nat → List Str → D → Nat → Nat → Nat × Nat → List Str → Prop
/-- an asking over w fields, a askings being told ahead of it: how many answers, how steep, what is known behind -/
inductive AOk (nm : Nat → Str) : Rel
  | ask {w : Nat} {a : Nat × Nat} {kn : List Str} {v m : D} {s : Nat} {g : Bool} {lo hi p q : Int} (h : COk w kn (v, m, s, g)) (hlo : -1 ≤ lo ∧ lo ≤ 1) (hhi : lo < hi ∧ hi ≤ lo + 3) (hp : 1 ≤ p) (hq : p < q ∧ q ≤ 100) :
      AOk nm w a kn (.tup [.str "ask", .str (nm (a.1 + 1)), v, m, .int lo, .int hi, .int p, .int q]) (hi - lo + 1).toNat s (a.1 + 1, a.2 + 1) (kn ++ [nm (a.1 + 1)])
  | flat {w : Nat} {a : Nat × Nat} {kn : List Str} {v m : D} {s : Nat} {g : Bool} {lo hi z : Int} (h : COk w kn (v, m, s, g)) (hlo : -1 ≤ lo ∧ lo ≤ 1) (hhi : lo < hi ∧ hi ≤ lo + 3) (hz : 0 ≤ z ∧ z ≤ 3) :
      AOk nm w a kn (.tup [.str "flat", .str (nm (a.1 + 1)), v, m, .int lo, .int hi, .int z]) (hi - lo + 1).toNat s (a.1 + 1, a.2 + 1) (kn ++ [nm (a.1 + 1)])
  | pick {w : Nat} {a : Nat × Nat} {kn : List Str} {cs : List (D × D × Nat × Bool)} {top p q : Int} {s : Nat} (h : ∀ c ∈ cs, COk w kn c) (hl : 2 ≤ cs.length ∧ cs.length ≤ 3) (ht : 1 ≤ top ∧ top ≤ 4) (hp : 1 ≤ p) (hq : p < q ∧ q ≤ 100) (hs : s = (cs.foldl (fun m c => max m c.2.2.1) 0) * (if cs.all (·.2.2.2) then 1 else 2)) :
      AOk nm w a kn (.tup [.str "pick", .str (nm (a.1 + 1)), .tup (cs.map choiceD), .int top, .int p, .int q]) cs.length s (a.1 + 1, a.2 + 1) (kn ++ [nm (a.1 + 1)])
inductive Rws (S : Rel) (w : Nat) (a : Nat × Nat) (kn : List Str) : List D → Nat → Nat → Nat × Nat → List Str → Prop
  | nil : Rws S w a kn [] 1 0 a kn
  | snoc {R : List D} {ah us : Nat} {b : Nat × Nat} {kb : List Str} {s : D} {ah' us' : Nat} {c : Nat × Nat} {kc : List Str} (h : Rws S w a kn R ah us b kb) (k : S w b kb s ah' us' c kc) : Rws S w a kn (R ++ [s]) (ah * ah') (us + us') c kc
inductive Pts (S : Rel) (dl : Int) (w : Nat) (a : Nat × Nat) (kn : List Str) : List (Int × List D) → Nat → Nat → Nat × Nat → List Str → Prop
  | nil : Pts S dl w a kn [] 1 0 a kn
  | snoc {ps : List (Int × List D)} {ah us : Nat} {b : Nat × Nat} {kb : List Str} {R : List D} {ah' us' : Nat} {c : Nat × Nat} {kc : List Str} (h : Pts S dl w a kn ps ah us b kb) (k : Rws S w b kb R ah' us' c kc) : Pts S dl w a kn (ps ++ [((ps.length : Int) - dl, R)]) (ah * ah') (max us us') c kc
def partD (p : Int × List D) : D := .tup [.int p.1, .tup p.2]
/-- a block whose rows are of S -/
inductive BOk (S : Rel) : Rel
  | iff {w : Nat} {a : Nat × Nat} {kn : List Str} {t : D} {A B : List D} {ah us : Nat} {b : Nat × Nat} {kb : List Str} {ah' us' : Nat} {c : Nat × Nat} {kc : List Str} (ht : TOk 0 kn 3 t) (h : Rws S w (a.1, a.2 + 1) kn A ah us b kb) (k : Rws S w b kn B ah' us' c kc) : BOk S w a kn (.tup [.str "if", t, .tup A, .tup B]) (ah + ah') (max us us') c kn
  | parts {w : Nat} {a : Nat × Nat} {kn : List Str} {t : D} {dl : Int} {ps : List (Int × List D)} {ah us : Nat} {b : Nat × Nat} {kb : List Str} (hd : dl = 0 ∨ dl = 1) (ht : TOk w kn 3 t) (hl : 1 ≤ ps.length ∧ ps.length ≤ 3) (h : Pts S dl w (a.1, a.2 + 1) kn ps ah us b kb) : BOk S w a kn (.tup [.str "parts", t, .tup (ps.map partD)]) ah us b kb
  | draw {w : Nat} {a : Nat × Nat} {kn : List Str} {x y : Int} {R : List D} {ah us : Nat} {b : Nat × Nat} {kb : List Str} (hx : 0 ≤ x ∧ x ≤ y) (hy : 1 ≤ y ∧ y ≤ 5) (h : Rws S w (a.1, a.2 + 1) kn R ah us b kb) : BOk S w a kn (.tup [.str "draw", .int x, .int y, .tup R]) ah us b kb
  | on {w : Nat} {a : Nat × Nat} {kn : List Str} {v : D} {W st : Nat} {g : Bool} {R : List D} {ah us : Nat} {b : Nat × Nat} {kb : List Str} (hv : VOk w kn 5 v W st g) (h : Rws S W (a.1, a.2 + 1) kn R ah us b kb) : BOk S w a kn (.tup [.str "on", v, .tup R]) ah (st * us) b kb
/-- a statement, blocks at most n deep -/
def SOk (nm : Nat → Str) : Nat → Rel
  | 0 => AOk nm
  | n + 1 => fun w a kn s ah us b kb => AOk nm w a kn s ah us b kb ∨ BOk (SOk nm n) w a kn s ah us b kb
theorem forX_all {α S R : Type} {f : α → S → Res (Oc S R)} {s : S} : ∀ {l : List α}, (∀ a ∈ l, f a s = .ok (.nx s)) → DL.forX l s f = .ok (.nx s)
  | [], _ => rfl
  | a :: l, h => by
    show (f a s).bind _ = _
    rw [h a List.mem_cons_self, Res.bind_ok]
    exact forX_all fun x hx => h x (List.mem_cons_of_mem _ hx)
theorem asI_len (xs : List D) : (dLen (.tup xs)).bind D.asI = .ok (xs.length : Int) := rfl
theorem parts_bin : ∀ o ∈ binOps, True ∧ o ≠ "num" ∧ o ≠ "field" ∧ o ≠ "name" := by decide +kernel
theorem catR_ok' {α : Type} {a b : List α} (h : a.length + b.length ≤ 16000000) : catR a b = .ok (a ++ b) := if_pos (show _ ≤ sizeLine by rw [PySem.sizeLine_eq]; omega)
@[simp] theorem dEq_ss (a b : Str) : rawB (dEq (.str a) (.str b)) = .ok (decide (a = b)) := rfl

@[simp] theorem asItems_tup (l : List D) : D.asItems (.tup l) = .ok l := Eq.trans rfl rfl
@[simp] theorem rawB_bl0 (b : Bool) : rawB (.ok (.bl b)) = .ok b := rfl
theorem forX_rt {α S R : Type} {f : α → S → Res (Oc S R)} {a : α} {l : List α} {s : S} {v : R} (h : f a s = .ok (.rt v)) : DL.forX (a :: l) s f = .ok (.rt v) := by
  show (f a s).bind _ = _
  rw [h]; rfl
theorem forX_nx {α S R : Type} {f : α → S → Res (Oc S R)} {a : α} {l : List α} {s s' : S} (h : f a s = .ok (.nx s')) : DL.forX (a :: l) s f = DL.forX l s' f := by
  show (f a s).bind _ = _
  rw [h]; rfl
/-! ### drawn programs are plain data: they can be compared -/
def Txts (kn : List Str) : Prop := ∀ x ∈ kn, PyData.strOk x = true
@[simp] theorem so_num : PyData.strOk "num" = true := by decide +kernel
@[simp] theorem so_field : PyData.strOk "field" = true := by decide +kernel
@[simp] theorem so_name : PyData.strOk "name" = true := by decide +kernel
@[simp] theorem so_not : PyData.strOk "not" = true := by decide +kernel
@[simp] theorem so_pick : PyData.strOk "pick" = true := by decide +kernel
@[simp] theorem so_all : PyData.strOk "all" = true := by decide +kernel
@[simp] theorem so_keep : PyData.strOk "keep" = true := by decide +kernel
@[simp] theorem so_unlike : PyData.strOk "unlike" = true := by decide +kernel
@[simp] theorem so_cap : PyData.strOk "cap" = true := by decide +kernel
@[simp] theorem so_rows : PyData.strOk "rows" = true := by decide +kernel
@[simp] theorem so_both : PyData.strOk "both" = true := by decide +kernel
@[simp] theorem so_match : PyData.strOk "match" = true := by decide +kernel
@[simp] theorem so_count : PyData.strOk "count" = true := by decide +kernel
@[simp] theorem so_kinds : PyData.strOk "kinds" = true := by decide +kernel
@[simp] theorem so_sum : PyData.strOk "sum" = true := by decide +kernel
@[simp] theorem so_ask : PyData.strOk "ask" = true := by decide +kernel
@[simp] theorem so_flat : PyData.strOk "flat" = true := by decide +kernel
@[simp] theorem so_if : PyData.strOk "if" = true := by decide +kernel
@[simp] theorem so_parts : PyData.strOk "parts" = true := by decide +kernel
@[simp] theorem so_draw : PyData.strOk "draw" = true := by decide +kernel
@[simp] theorem so_on : PyData.strOk "on" = true := by decide +kernel
theorem so_bin : ∀ o ∈ binOps, PyData.strOk o = true := by decide +kernel
theorem pls_all {l : List D} {n : Nat} (h : ∀ d ∈ l, d.pl n = true) : D.pls l n = true := by
  induction l with
  | nil => simp [D.pls]
  | cons d l ih => simp [D.pls, h d List.mem_cons_self, ih fun x hx => h x (List.mem_cons_of_mem _ hx)]
theorem pls_mem {l : List D} {n : Nat} (h : D.pls l n = true) : ∀ d ∈ l, d.pl n = true := by
  induction l with
  | nil => intro d h; cases h
  | cons a l ih =>
    simp only [D.pls, Bool.and_eq_true] at h
    intro d hd
    rcases List.mem_cons.mp hd with rfl | hd
    · exact h.1
    · exact ih h.2 d hd
theorem TOk.pl {w : Nat} {kn : List Str} (hk : Txts kn) {n : Nat} {t : D} (h : TOk w kn n t) : ∀ m, n + 1 ≤ m → t.pl m = true := by
  induction h with
  | num h => intro m hm; obtain ⟨m, rfl⟩ : ∃ k, m = k + 1 := ⟨m - 1, by omega⟩; simp [D.pl, D.pls]
  | field h => intro m hm; obtain ⟨m, rfl⟩ : ∃ k, m = k + 1 := ⟨m - 1, by omega⟩; simp [D.pl, D.pls]
  | name h => intro m hm; obtain ⟨m, rfl⟩ : ∃ k, m = k + 1 := ⟨m - 1, by omega⟩; simp [D.pl, D.pls, hk _ h]
  | un h ih => intro m hm; obtain ⟨m, rfl⟩ : ∃ k, m = k + 1 := ⟨m - 1, by omega⟩; simp [D.pl, D.pls, ih m (by omega)]
  | bin ho h k ih ik => intro m hm; obtain ⟨m, rfl⟩ : ∃ k, m = k + 1 := ⟨m - 1, by omega⟩; simp [D.pl, D.pls, so_bin _ ho, ih m (by omega), ik m (by omega)]
  | pick h k l ih ik il => intro m hm; obtain ⟨m, rfl⟩ : ∃ k, m = k + 1 := ⟨m - 1, by omega⟩; simp [D.pl, D.pls, ih m (by omega), ik m (by omega), il m (by omega)]
theorem ans_pl' (l : List Int) (n : Nat) : (ans l).pl (n + 1) = true := by
  unfold ans
  simp only [D.pl]
  exact pls_all fun d hd => by obtain ⟨z, _, rfl⟩ := List.mem_map.mp hd; simp [D.pl]
theorem VOk.pl {w : Nat} {kn : List Str} (hk : Txts kn) {n : Nat} {v : D} {W c : Nat} {g : Bool} (h : VOk w kn n v W c g) : ∀ m, n + 6 ≤ m → v.pl m = true := by
  induction h with
  | all => intro m hm; obtain ⟨m, rfl⟩ : ∃ k, m = k + 1 := ⟨m - 1, by omega⟩; simp [D.pl, D.pls]
  | keep ht h ih => intro m hm; obtain ⟨m, rfl⟩ : ∃ k, m = k + 1 := ⟨m - 1, by omega⟩; simp [D.pl, D.pls, ih m (by omega), ht.pl hk m (by omega)]
  | unlike h ih => intro m hm; obtain ⟨m, rfl⟩ : ∃ k, m = k + 1 := ⟨m - 1, by omega⟩; simp [D.pl, D.pls, ih m (by omega)]
  | cap hk' ht h ih => intro m hm; obtain ⟨m, rfl⟩ : ∃ k, m = k + 1 := ⟨m - 1, by omega⟩; simp [D.pl, D.pls, ih m (by omega), ht.pl hk m (by omega)]
  | rows hd hl ht h ih =>
    intro m hm
    obtain ⟨m, rfl⟩ : ∃ k, m = k + 3 := ⟨m - 3, by omega⟩
    simp only [D.pl, D.pls, so_rows, ih (m + 2) (by omega), Bool.and_true, Bool.true_and]
    refine pls_all fun d hd => ?_
    obtain ⟨L, hL, rfl⟩ := List.mem_map.mp hd
    simp only [D.pl]
    exact pls_all fun t htt => ((ht L hL).2 t htt).pl hk m (by omega)
  | both ht h ih => intro m hm; obtain ⟨m, rfl⟩ : ∃ k, m = k + 2 := ⟨m - 2, by omega⟩; simp [D.pl, D.pls, ih (m + 1) (by omega), ih m (by omega), ht.pl hk m (by omega)]
  | mtch hd hW hl hp hq ht h ih =>
    intro m hm
    obtain ⟨m, rfl⟩ : ∃ k, m = k + 4 := ⟨m - 4, by omega⟩
    simp only [D.pl, D.pls, so_match, ih (m + 3) (by omega), ht.pl hk (m + 3) (by omega), Bool.and_true, Bool.true_and]
    refine pls_all fun d hd => ?_
    obtain ⟨p, _, rfl⟩ := List.mem_map.mp hd
    simp [pairP, D.pl, D.pls, ans_pl']
theorem MOk.pl {w : Nat} {kn : List Str} (hk : Txts kn) {m : D} {r : Nat} {g : Bool} (h : MOk w kn m r g) : ∀ n, 6 ≤ n → m.pl n = true := by
  intro n hn
  obtain ⟨n, rfl⟩ : ∃ k, n = k + 1 := ⟨n - 1, by omega⟩
  cases h with
  | count => simp [D.pl, D.pls]
  | kinds ht => simp [D.pl, D.pls, ht.pl hk n (by omega)]
  | sum ht _ _ _ _ => simp [D.pl, D.pls, ht.pl hk n (by omega)]
theorem COk.pl {w : Nat} {kn : List Str} (hk : Txts kn) {c : D × D × Nat × Bool} (h : COk w kn c) : ∀ n, 11 ≤ n → c.1.pl n = true ∧ c.2.1.pl n = true := by
  obtain ⟨W, st, r, gv, gm, h1, h2, _⟩ := h
  exact fun n hn => ⟨h1.pl hk n (by omega), h2.pl hk n (by omega)⟩
/-! ### heads of statements, views, measures, terms -/
@[simp] theorem sn_add_any : (Str.ofString "add" = Str.ofString "any") = False := eq_false (by decide +kernel)
@[simp] theorem sn_add_both : (Str.ofString "add" = Str.ofString "both") = False := eq_false (by decide +kernel)
@[simp] theorem sn_add_field : (Str.ofString "add" = Str.ofString "field") = False := eq_false (by decide +kernel)
@[simp] theorem sn_add_less : (Str.ofString "add" = Str.ofString "less") = False := eq_false (by decide +kernel)
@[simp] theorem sn_add_mul : (Str.ofString "add" = Str.ofString "mul") = False := eq_false (by decide +kernel)
@[simp] theorem sn_add_name : (Str.ofString "add" = Str.ofString "name") = False := eq_false (by decide +kernel)
@[simp] theorem sn_add_not : (Str.ofString "add" = Str.ofString "not") = False := eq_false (by decide +kernel)
@[simp] theorem sn_add_num : (Str.ofString "add" = Str.ofString "num") = False := eq_false (by decide +kernel)
@[simp] theorem sn_add_pick : (Str.ofString "add" = Str.ofString "pick") = False := eq_false (by decide +kernel)
@[simp] theorem sn_add_quo : (Str.ofString "add" = Str.ofString "quo") = False := eq_false (by decide +kernel)
@[simp] theorem sn_add_same : (Str.ofString "add" = Str.ofString "same") = False := eq_false (by decide +kernel)
@[simp] theorem sn_add_sub : (Str.ofString "add" = Str.ofString "sub") = False := eq_false (by decide +kernel)
@[simp] theorem sn_all_both : (Str.ofString "all" = Str.ofString "both") = False := eq_false (by decide +kernel)
@[simp] theorem sn_all_cap : (Str.ofString "all" = Str.ofString "cap") = False := eq_false (by decide +kernel)
@[simp] theorem sn_all_keep : (Str.ofString "all" = Str.ofString "keep") = False := eq_false (by decide +kernel)
@[simp] theorem sn_all_match : (Str.ofString "all" = Str.ofString "match") = False := eq_false (by decide +kernel)
@[simp] theorem sn_all_rows : (Str.ofString "all" = Str.ofString "rows") = False := eq_false (by decide +kernel)
@[simp] theorem sn_all_unlike : (Str.ofString "all" = Str.ofString "unlike") = False := eq_false (by decide +kernel)
@[simp] theorem sn_any_add : (Str.ofString "any" = Str.ofString "add") = False := eq_false (by decide +kernel)
@[simp] theorem sn_any_both : (Str.ofString "any" = Str.ofString "both") = False := eq_false (by decide +kernel)
@[simp] theorem sn_any_field : (Str.ofString "any" = Str.ofString "field") = False := eq_false (by decide +kernel)
@[simp] theorem sn_any_less : (Str.ofString "any" = Str.ofString "less") = False := eq_false (by decide +kernel)
@[simp] theorem sn_any_mul : (Str.ofString "any" = Str.ofString "mul") = False := eq_false (by decide +kernel)
@[simp] theorem sn_any_name : (Str.ofString "any" = Str.ofString "name") = False := eq_false (by decide +kernel)
@[simp] theorem sn_any_not : (Str.ofString "any" = Str.ofString "not") = False := eq_false (by decide +kernel)
@[simp] theorem sn_any_num : (Str.ofString "any" = Str.ofString "num") = False := eq_false (by decide +kernel)
@[simp] theorem sn_any_pick : (Str.ofString "any" = Str.ofString "pick") = False := eq_false (by decide +kernel)
@[simp] theorem sn_any_quo : (Str.ofString "any" = Str.ofString "quo") = False := eq_false (by decide +kernel)
@[simp] theorem sn_any_same : (Str.ofString "any" = Str.ofString "same") = False := eq_false (by decide +kernel)
@[simp] theorem sn_any_sub : (Str.ofString "any" = Str.ofString "sub") = False := eq_false (by decide +kernel)
@[simp] theorem sn_ask_draw : (Str.ofString "ask" = Str.ofString "draw") = False := eq_false (by decide +kernel)
@[simp] theorem sn_ask_flat : (Str.ofString "ask" = Str.ofString "flat") = False := eq_false (by decide +kernel)
@[simp] theorem sn_ask_if : (Str.ofString "ask" = Str.ofString "if") = False := eq_false (by decide +kernel)
@[simp] theorem sn_ask_on : (Str.ofString "ask" = Str.ofString "on") = False := eq_false (by decide +kernel)
@[simp] theorem sn_ask_parts : (Str.ofString "ask" = Str.ofString "parts") = False := eq_false (by decide +kernel)
@[simp] theorem sn_ask_pick : (Str.ofString "ask" = Str.ofString "pick") = False := eq_false (by decide +kernel)
@[simp] theorem sn_both_add : (Str.ofString "both" = Str.ofString "add") = False := eq_false (by decide +kernel)
@[simp] theorem sn_both_all : (Str.ofString "both" = Str.ofString "all") = False := eq_false (by decide +kernel)
@[simp] theorem sn_both_any : (Str.ofString "both" = Str.ofString "any") = False := eq_false (by decide +kernel)
@[simp] theorem sn_both_cap : (Str.ofString "both" = Str.ofString "cap") = False := eq_false (by decide +kernel)
@[simp] theorem sn_both_field : (Str.ofString "both" = Str.ofString "field") = False := eq_false (by decide +kernel)
@[simp] theorem sn_both_keep : (Str.ofString "both" = Str.ofString "keep") = False := eq_false (by decide +kernel)
@[simp] theorem sn_both_less : (Str.ofString "both" = Str.ofString "less") = False := eq_false (by decide +kernel)
@[simp] theorem sn_both_match : (Str.ofString "both" = Str.ofString "match") = False := eq_false (by decide +kernel)
@[simp] theorem sn_both_mul : (Str.ofString "both" = Str.ofString "mul") = False := eq_false (by decide +kernel)
@[simp] theorem sn_both_name : (Str.ofString "both" = Str.ofString "name") = False := eq_false (by decide +kernel)
@[simp] theorem sn_both_not : (Str.ofString "both" = Str.ofString "not") = False := eq_false (by decide +kernel)
@[simp] theorem sn_both_num : (Str.ofString "both" = Str.ofString "num") = False := eq_false (by decide +kernel)
@[simp] theorem sn_both_pick : (Str.ofString "both" = Str.ofString "pick") = False := eq_false (by decide +kernel)
@[simp] theorem sn_both_quo : (Str.ofString "both" = Str.ofString "quo") = False := eq_false (by decide +kernel)
@[simp] theorem sn_both_rows : (Str.ofString "both" = Str.ofString "rows") = False := eq_false (by decide +kernel)
@[simp] theorem sn_both_same : (Str.ofString "both" = Str.ofString "same") = False := eq_false (by decide +kernel)
@[simp] theorem sn_both_sub : (Str.ofString "both" = Str.ofString "sub") = False := eq_false (by decide +kernel)
@[simp] theorem sn_both_unlike : (Str.ofString "both" = Str.ofString "unlike") = False := eq_false (by decide +kernel)
@[simp] theorem sn_cap_all : (Str.ofString "cap" = Str.ofString "all") = False := eq_false (by decide +kernel)
@[simp] theorem sn_cap_both : (Str.ofString "cap" = Str.ofString "both") = False := eq_false (by decide +kernel)
@[simp] theorem sn_cap_keep : (Str.ofString "cap" = Str.ofString "keep") = False := eq_false (by decide +kernel)
@[simp] theorem sn_cap_match : (Str.ofString "cap" = Str.ofString "match") = False := eq_false (by decide +kernel)
@[simp] theorem sn_cap_rows : (Str.ofString "cap" = Str.ofString "rows") = False := eq_false (by decide +kernel)
@[simp] theorem sn_cap_unlike : (Str.ofString "cap" = Str.ofString "unlike") = False := eq_false (by decide +kernel)
@[simp] theorem sn_count_kinds : (Str.ofString "count" = Str.ofString "kinds") = False := eq_false (by decide +kernel)
@[simp] theorem sn_count_sum : (Str.ofString "count" = Str.ofString "sum") = False := eq_false (by decide +kernel)
@[simp] theorem sn_draw_ask : (Str.ofString "draw" = Str.ofString "ask") = False := eq_false (by decide +kernel)
@[simp] theorem sn_draw_flat : (Str.ofString "draw" = Str.ofString "flat") = False := eq_false (by decide +kernel)
@[simp] theorem sn_draw_if : (Str.ofString "draw" = Str.ofString "if") = False := eq_false (by decide +kernel)
@[simp] theorem sn_draw_on : (Str.ofString "draw" = Str.ofString "on") = False := eq_false (by decide +kernel)
@[simp] theorem sn_draw_parts : (Str.ofString "draw" = Str.ofString "parts") = False := eq_false (by decide +kernel)
@[simp] theorem sn_draw_pick : (Str.ofString "draw" = Str.ofString "pick") = False := eq_false (by decide +kernel)
@[simp] theorem sn_field_add : (Str.ofString "field" = Str.ofString "add") = False := eq_false (by decide +kernel)
@[simp] theorem sn_field_any : (Str.ofString "field" = Str.ofString "any") = False := eq_false (by decide +kernel)
@[simp] theorem sn_field_both : (Str.ofString "field" = Str.ofString "both") = False := eq_false (by decide +kernel)
@[simp] theorem sn_field_less : (Str.ofString "field" = Str.ofString "less") = False := eq_false (by decide +kernel)
@[simp] theorem sn_field_mul : (Str.ofString "field" = Str.ofString "mul") = False := eq_false (by decide +kernel)
@[simp] theorem sn_field_name : (Str.ofString "field" = Str.ofString "name") = False := eq_false (by decide +kernel)
@[simp] theorem sn_field_not : (Str.ofString "field" = Str.ofString "not") = False := eq_false (by decide +kernel)
@[simp] theorem sn_field_num : (Str.ofString "field" = Str.ofString "num") = False := eq_false (by decide +kernel)
@[simp] theorem sn_field_pick : (Str.ofString "field" = Str.ofString "pick") = False := eq_false (by decide +kernel)
@[simp] theorem sn_field_quo : (Str.ofString "field" = Str.ofString "quo") = False := eq_false (by decide +kernel)
@[simp] theorem sn_field_same : (Str.ofString "field" = Str.ofString "same") = False := eq_false (by decide +kernel)
@[simp] theorem sn_field_sub : (Str.ofString "field" = Str.ofString "sub") = False := eq_false (by decide +kernel)
@[simp] theorem sn_flat_ask : (Str.ofString "flat" = Str.ofString "ask") = False := eq_false (by decide +kernel)
@[simp] theorem sn_flat_draw : (Str.ofString "flat" = Str.ofString "draw") = False := eq_false (by decide +kernel)
@[simp] theorem sn_flat_if : (Str.ofString "flat" = Str.ofString "if") = False := eq_false (by decide +kernel)
@[simp] theorem sn_flat_on : (Str.ofString "flat" = Str.ofString "on") = False := eq_false (by decide +kernel)
@[simp] theorem sn_flat_parts : (Str.ofString "flat" = Str.ofString "parts") = False := eq_false (by decide +kernel)
@[simp] theorem sn_flat_pick : (Str.ofString "flat" = Str.ofString "pick") = False := eq_false (by decide +kernel)
@[simp] theorem sn_if_ask : (Str.ofString "if" = Str.ofString "ask") = False := eq_false (by decide +kernel)
@[simp] theorem sn_if_draw : (Str.ofString "if" = Str.ofString "draw") = False := eq_false (by decide +kernel)
@[simp] theorem sn_if_flat : (Str.ofString "if" = Str.ofString "flat") = False := eq_false (by decide +kernel)
@[simp] theorem sn_if_on : (Str.ofString "if" = Str.ofString "on") = False := eq_false (by decide +kernel)
@[simp] theorem sn_if_parts : (Str.ofString "if" = Str.ofString "parts") = False := eq_false (by decide +kernel)
@[simp] theorem sn_if_pick : (Str.ofString "if" = Str.ofString "pick") = False := eq_false (by decide +kernel)
@[simp] theorem sn_keep_all : (Str.ofString "keep" = Str.ofString "all") = False := eq_false (by decide +kernel)
@[simp] theorem sn_keep_both : (Str.ofString "keep" = Str.ofString "both") = False := eq_false (by decide +kernel)
@[simp] theorem sn_keep_cap : (Str.ofString "keep" = Str.ofString "cap") = False := eq_false (by decide +kernel)
@[simp] theorem sn_keep_match : (Str.ofString "keep" = Str.ofString "match") = False := eq_false (by decide +kernel)
@[simp] theorem sn_keep_rows : (Str.ofString "keep" = Str.ofString "rows") = False := eq_false (by decide +kernel)
@[simp] theorem sn_keep_unlike : (Str.ofString "keep" = Str.ofString "unlike") = False := eq_false (by decide +kernel)
@[simp] theorem sn_kinds_count : (Str.ofString "kinds" = Str.ofString "count") = False := eq_false (by decide +kernel)
@[simp] theorem sn_kinds_sum : (Str.ofString "kinds" = Str.ofString "sum") = False := eq_false (by decide +kernel)
@[simp] theorem sn_less_add : (Str.ofString "less" = Str.ofString "add") = False := eq_false (by decide +kernel)
@[simp] theorem sn_less_any : (Str.ofString "less" = Str.ofString "any") = False := eq_false (by decide +kernel)
@[simp] theorem sn_less_both : (Str.ofString "less" = Str.ofString "both") = False := eq_false (by decide +kernel)
@[simp] theorem sn_less_field : (Str.ofString "less" = Str.ofString "field") = False := eq_false (by decide +kernel)
@[simp] theorem sn_less_mul : (Str.ofString "less" = Str.ofString "mul") = False := eq_false (by decide +kernel)
@[simp] theorem sn_less_name : (Str.ofString "less" = Str.ofString "name") = False := eq_false (by decide +kernel)
@[simp] theorem sn_less_not : (Str.ofString "less" = Str.ofString "not") = False := eq_false (by decide +kernel)
@[simp] theorem sn_less_num : (Str.ofString "less" = Str.ofString "num") = False := eq_false (by decide +kernel)
@[simp] theorem sn_less_pick : (Str.ofString "less" = Str.ofString "pick") = False := eq_false (by decide +kernel)
@[simp] theorem sn_less_quo : (Str.ofString "less" = Str.ofString "quo") = False := eq_false (by decide +kernel)
@[simp] theorem sn_less_same : (Str.ofString "less" = Str.ofString "same") = False := eq_false (by decide +kernel)
@[simp] theorem sn_less_sub : (Str.ofString "less" = Str.ofString "sub") = False := eq_false (by decide +kernel)
@[simp] theorem sn_match_all : (Str.ofString "match" = Str.ofString "all") = False := eq_false (by decide +kernel)
@[simp] theorem sn_match_both : (Str.ofString "match" = Str.ofString "both") = False := eq_false (by decide +kernel)
@[simp] theorem sn_match_cap : (Str.ofString "match" = Str.ofString "cap") = False := eq_false (by decide +kernel)
@[simp] theorem sn_match_keep : (Str.ofString "match" = Str.ofString "keep") = False := eq_false (by decide +kernel)
@[simp] theorem sn_match_rows : (Str.ofString "match" = Str.ofString "rows") = False := eq_false (by decide +kernel)
@[simp] theorem sn_match_unlike : (Str.ofString "match" = Str.ofString "unlike") = False := eq_false (by decide +kernel)
@[simp] theorem sn_mul_add : (Str.ofString "mul" = Str.ofString "add") = False := eq_false (by decide +kernel)
@[simp] theorem sn_mul_any : (Str.ofString "mul" = Str.ofString "any") = False := eq_false (by decide +kernel)
@[simp] theorem sn_mul_both : (Str.ofString "mul" = Str.ofString "both") = False := eq_false (by decide +kernel)
@[simp] theorem sn_mul_field : (Str.ofString "mul" = Str.ofString "field") = False := eq_false (by decide +kernel)
@[simp] theorem sn_mul_less : (Str.ofString "mul" = Str.ofString "less") = False := eq_false (by decide +kernel)
@[simp] theorem sn_mul_name : (Str.ofString "mul" = Str.ofString "name") = False := eq_false (by decide +kernel)
@[simp] theorem sn_mul_not : (Str.ofString "mul" = Str.ofString "not") = False := eq_false (by decide +kernel)
@[simp] theorem sn_mul_num : (Str.ofString "mul" = Str.ofString "num") = False := eq_false (by decide +kernel)
@[simp] theorem sn_mul_pick : (Str.ofString "mul" = Str.ofString "pick") = False := eq_false (by decide +kernel)
@[simp] theorem sn_mul_quo : (Str.ofString "mul" = Str.ofString "quo") = False := eq_false (by decide +kernel)
@[simp] theorem sn_mul_same : (Str.ofString "mul" = Str.ofString "same") = False := eq_false (by decide +kernel)
@[simp] theorem sn_mul_sub : (Str.ofString "mul" = Str.ofString "sub") = False := eq_false (by decide +kernel)
@[simp] theorem sn_name_add : (Str.ofString "name" = Str.ofString "add") = False := eq_false (by decide +kernel)
@[simp] theorem sn_name_any : (Str.ofString "name" = Str.ofString "any") = False := eq_false (by decide +kernel)
@[simp] theorem sn_name_both : (Str.ofString "name" = Str.ofString "both") = False := eq_false (by decide +kernel)
@[simp] theorem sn_name_field : (Str.ofString "name" = Str.ofString "field") = False := eq_false (by decide +kernel)
@[simp] theorem sn_name_less : (Str.ofString "name" = Str.ofString "less") = False := eq_false (by decide +kernel)
@[simp] theorem sn_name_mul : (Str.ofString "name" = Str.ofString "mul") = False := eq_false (by decide +kernel)
@[simp] theorem sn_name_not : (Str.ofString "name" = Str.ofString "not") = False := eq_false (by decide +kernel)
@[simp] theorem sn_name_num : (Str.ofString "name" = Str.ofString "num") = False := eq_false (by decide +kernel)
@[simp] theorem sn_name_pick : (Str.ofString "name" = Str.ofString "pick") = False := eq_false (by decide +kernel)
@[simp] theorem sn_name_quo : (Str.ofString "name" = Str.ofString "quo") = False := eq_false (by decide +kernel)
@[simp] theorem sn_name_same : (Str.ofString "name" = Str.ofString "same") = False := eq_false (by decide +kernel)
@[simp] theorem sn_name_sub : (Str.ofString "name" = Str.ofString "sub") = False := eq_false (by decide +kernel)
@[simp] theorem sn_not_add : (Str.ofString "not" = Str.ofString "add") = False := eq_false (by decide +kernel)
@[simp] theorem sn_not_any : (Str.ofString "not" = Str.ofString "any") = False := eq_false (by decide +kernel)
@[simp] theorem sn_not_both : (Str.ofString "not" = Str.ofString "both") = False := eq_false (by decide +kernel)
@[simp] theorem sn_not_field : (Str.ofString "not" = Str.ofString "field") = False := eq_false (by decide +kernel)
@[simp] theorem sn_not_less : (Str.ofString "not" = Str.ofString "less") = False := eq_false (by decide +kernel)
@[simp] theorem sn_not_mul : (Str.ofString "not" = Str.ofString "mul") = False := eq_false (by decide +kernel)
@[simp] theorem sn_not_name : (Str.ofString "not" = Str.ofString "name") = False := eq_false (by decide +kernel)
@[simp] theorem sn_not_num : (Str.ofString "not" = Str.ofString "num") = False := eq_false (by decide +kernel)
@[simp] theorem sn_not_pick : (Str.ofString "not" = Str.ofString "pick") = False := eq_false (by decide +kernel)
@[simp] theorem sn_not_quo : (Str.ofString "not" = Str.ofString "quo") = False := eq_false (by decide +kernel)
@[simp] theorem sn_not_same : (Str.ofString "not" = Str.ofString "same") = False := eq_false (by decide +kernel)
@[simp] theorem sn_not_sub : (Str.ofString "not" = Str.ofString "sub") = False := eq_false (by decide +kernel)
@[simp] theorem sn_num_add : (Str.ofString "num" = Str.ofString "add") = False := eq_false (by decide +kernel)
@[simp] theorem sn_num_any : (Str.ofString "num" = Str.ofString "any") = False := eq_false (by decide +kernel)
@[simp] theorem sn_num_both : (Str.ofString "num" = Str.ofString "both") = False := eq_false (by decide +kernel)
@[simp] theorem sn_num_field : (Str.ofString "num" = Str.ofString "field") = False := eq_false (by decide +kernel)
@[simp] theorem sn_num_less : (Str.ofString "num" = Str.ofString "less") = False := eq_false (by decide +kernel)
@[simp] theorem sn_num_mul : (Str.ofString "num" = Str.ofString "mul") = False := eq_false (by decide +kernel)
@[simp] theorem sn_num_name : (Str.ofString "num" = Str.ofString "name") = False := eq_false (by decide +kernel)
@[simp] theorem sn_num_not : (Str.ofString "num" = Str.ofString "not") = False := eq_false (by decide +kernel)
@[simp] theorem sn_num_pick : (Str.ofString "num" = Str.ofString "pick") = False := eq_false (by decide +kernel)
@[simp] theorem sn_num_quo : (Str.ofString "num" = Str.ofString "quo") = False := eq_false (by decide +kernel)
@[simp] theorem sn_num_same : (Str.ofString "num" = Str.ofString "same") = False := eq_false (by decide +kernel)
@[simp] theorem sn_num_sub : (Str.ofString "num" = Str.ofString "sub") = False := eq_false (by decide +kernel)
@[simp] theorem sn_on_ask : (Str.ofString "on" = Str.ofString "ask") = False := eq_false (by decide +kernel)
@[simp] theorem sn_on_draw : (Str.ofString "on" = Str.ofString "draw") = False := eq_false (by decide +kernel)
@[simp] theorem sn_on_flat : (Str.ofString "on" = Str.ofString "flat") = False := eq_false (by decide +kernel)
@[simp] theorem sn_on_if : (Str.ofString "on" = Str.ofString "if") = False := eq_false (by decide +kernel)
@[simp] theorem sn_on_parts : (Str.ofString "on" = Str.ofString "parts") = False := eq_false (by decide +kernel)
@[simp] theorem sn_on_pick : (Str.ofString "on" = Str.ofString "pick") = False := eq_false (by decide +kernel)
@[simp] theorem sn_parts_ask : (Str.ofString "parts" = Str.ofString "ask") = False := eq_false (by decide +kernel)
@[simp] theorem sn_parts_draw : (Str.ofString "parts" = Str.ofString "draw") = False := eq_false (by decide +kernel)
@[simp] theorem sn_parts_flat : (Str.ofString "parts" = Str.ofString "flat") = False := eq_false (by decide +kernel)
@[simp] theorem sn_parts_if : (Str.ofString "parts" = Str.ofString "if") = False := eq_false (by decide +kernel)
@[simp] theorem sn_parts_on : (Str.ofString "parts" = Str.ofString "on") = False := eq_false (by decide +kernel)
@[simp] theorem sn_parts_pick : (Str.ofString "parts" = Str.ofString "pick") = False := eq_false (by decide +kernel)
@[simp] theorem sn_pick_add : (Str.ofString "pick" = Str.ofString "add") = False := eq_false (by decide +kernel)
@[simp] theorem sn_pick_any : (Str.ofString "pick" = Str.ofString "any") = False := eq_false (by decide +kernel)
@[simp] theorem sn_pick_ask : (Str.ofString "pick" = Str.ofString "ask") = False := eq_false (by decide +kernel)
@[simp] theorem sn_pick_both : (Str.ofString "pick" = Str.ofString "both") = False := eq_false (by decide +kernel)
@[simp] theorem sn_pick_draw : (Str.ofString "pick" = Str.ofString "draw") = False := eq_false (by decide +kernel)
@[simp] theorem sn_pick_field : (Str.ofString "pick" = Str.ofString "field") = False := eq_false (by decide +kernel)
@[simp] theorem sn_pick_flat : (Str.ofString "pick" = Str.ofString "flat") = False := eq_false (by decide +kernel)
@[simp] theorem sn_pick_if : (Str.ofString "pick" = Str.ofString "if") = False := eq_false (by decide +kernel)
@[simp] theorem sn_pick_less : (Str.ofString "pick" = Str.ofString "less") = False := eq_false (by decide +kernel)
@[simp] theorem sn_pick_mul : (Str.ofString "pick" = Str.ofString "mul") = False := eq_false (by decide +kernel)
@[simp] theorem sn_pick_name : (Str.ofString "pick" = Str.ofString "name") = False := eq_false (by decide +kernel)
@[simp] theorem sn_pick_not : (Str.ofString "pick" = Str.ofString "not") = False := eq_false (by decide +kernel)
@[simp] theorem sn_pick_num : (Str.ofString "pick" = Str.ofString "num") = False := eq_false (by decide +kernel)
@[simp] theorem sn_pick_on : (Str.ofString "pick" = Str.ofString "on") = False := eq_false (by decide +kernel)
@[simp] theorem sn_pick_parts : (Str.ofString "pick" = Str.ofString "parts") = False := eq_false (by decide +kernel)
@[simp] theorem sn_pick_quo : (Str.ofString "pick" = Str.ofString "quo") = False := eq_false (by decide +kernel)
@[simp] theorem sn_pick_same : (Str.ofString "pick" = Str.ofString "same") = False := eq_false (by decide +kernel)
@[simp] theorem sn_pick_sub : (Str.ofString "pick" = Str.ofString "sub") = False := eq_false (by decide +kernel)
@[simp] theorem sn_quo_add : (Str.ofString "quo" = Str.ofString "add") = False := eq_false (by decide +kernel)
@[simp] theorem sn_quo_any : (Str.ofString "quo" = Str.ofString "any") = False := eq_false (by decide +kernel)
@[simp] theorem sn_quo_both : (Str.ofString "quo" = Str.ofString "both") = False := eq_false (by decide +kernel)
@[simp] theorem sn_quo_field : (Str.ofString "quo" = Str.ofString "field") = False := eq_false (by decide +kernel)
@[simp] theorem sn_quo_less : (Str.ofString "quo" = Str.ofString "less") = False := eq_false (by decide +kernel)
@[simp] theorem sn_quo_mul : (Str.ofString "quo" = Str.ofString "mul") = False := eq_false (by decide +kernel)
@[simp] theorem sn_quo_name : (Str.ofString "quo" = Str.ofString "name") = False := eq_false (by decide +kernel)
@[simp] theorem sn_quo_not : (Str.ofString "quo" = Str.ofString "not") = False := eq_false (by decide +kernel)
@[simp] theorem sn_quo_num : (Str.ofString "quo" = Str.ofString "num") = False := eq_false (by decide +kernel)
@[simp] theorem sn_quo_pick : (Str.ofString "quo" = Str.ofString "pick") = False := eq_false (by decide +kernel)
@[simp] theorem sn_quo_same : (Str.ofString "quo" = Str.ofString "same") = False := eq_false (by decide +kernel)
@[simp] theorem sn_quo_sub : (Str.ofString "quo" = Str.ofString "sub") = False := eq_false (by decide +kernel)
@[simp] theorem sn_rows_all : (Str.ofString "rows" = Str.ofString "all") = False := eq_false (by decide +kernel)
@[simp] theorem sn_rows_both : (Str.ofString "rows" = Str.ofString "both") = False := eq_false (by decide +kernel)
@[simp] theorem sn_rows_cap : (Str.ofString "rows" = Str.ofString "cap") = False := eq_false (by decide +kernel)
@[simp] theorem sn_rows_keep : (Str.ofString "rows" = Str.ofString "keep") = False := eq_false (by decide +kernel)
@[simp] theorem sn_rows_match : (Str.ofString "rows" = Str.ofString "match") = False := eq_false (by decide +kernel)
@[simp] theorem sn_rows_unlike : (Str.ofString "rows" = Str.ofString "unlike") = False := eq_false (by decide +kernel)
@[simp] theorem sn_same_add : (Str.ofString "same" = Str.ofString "add") = False := eq_false (by decide +kernel)
@[simp] theorem sn_same_any : (Str.ofString "same" = Str.ofString "any") = False := eq_false (by decide +kernel)
@[simp] theorem sn_same_both : (Str.ofString "same" = Str.ofString "both") = False := eq_false (by decide +kernel)
@[simp] theorem sn_same_field : (Str.ofString "same" = Str.ofString "field") = False := eq_false (by decide +kernel)
@[simp] theorem sn_same_less : (Str.ofString "same" = Str.ofString "less") = False := eq_false (by decide +kernel)
@[simp] theorem sn_same_mul : (Str.ofString "same" = Str.ofString "mul") = False := eq_false (by decide +kernel)
@[simp] theorem sn_same_name : (Str.ofString "same" = Str.ofString "name") = False := eq_false (by decide +kernel)
@[simp] theorem sn_same_not : (Str.ofString "same" = Str.ofString "not") = False := eq_false (by decide +kernel)
@[simp] theorem sn_same_num : (Str.ofString "same" = Str.ofString "num") = False := eq_false (by decide +kernel)
@[simp] theorem sn_same_pick : (Str.ofString "same" = Str.ofString "pick") = False := eq_false (by decide +kernel)
@[simp] theorem sn_same_quo : (Str.ofString "same" = Str.ofString "quo") = False := eq_false (by decide +kernel)
@[simp] theorem sn_same_sub : (Str.ofString "same" = Str.ofString "sub") = False := eq_false (by decide +kernel)
@[simp] theorem sn_sub_add : (Str.ofString "sub" = Str.ofString "add") = False := eq_false (by decide +kernel)
@[simp] theorem sn_sub_any : (Str.ofString "sub" = Str.ofString "any") = False := eq_false (by decide +kernel)
@[simp] theorem sn_sub_both : (Str.ofString "sub" = Str.ofString "both") = False := eq_false (by decide +kernel)
@[simp] theorem sn_sub_field : (Str.ofString "sub" = Str.ofString "field") = False := eq_false (by decide +kernel)
@[simp] theorem sn_sub_less : (Str.ofString "sub" = Str.ofString "less") = False := eq_false (by decide +kernel)
@[simp] theorem sn_sub_mul : (Str.ofString "sub" = Str.ofString "mul") = False := eq_false (by decide +kernel)
@[simp] theorem sn_sub_name : (Str.ofString "sub" = Str.ofString "name") = False := eq_false (by decide +kernel)
@[simp] theorem sn_sub_not : (Str.ofString "sub" = Str.ofString "not") = False := eq_false (by decide +kernel)
@[simp] theorem sn_sub_num : (Str.ofString "sub" = Str.ofString "num") = False := eq_false (by decide +kernel)
@[simp] theorem sn_sub_pick : (Str.ofString "sub" = Str.ofString "pick") = False := eq_false (by decide +kernel)
@[simp] theorem sn_sub_quo : (Str.ofString "sub" = Str.ofString "quo") = False := eq_false (by decide +kernel)
@[simp] theorem sn_sub_same : (Str.ofString "sub" = Str.ofString "same") = False := eq_false (by decide +kernel)
@[simp] theorem sn_sum_count : (Str.ofString "sum" = Str.ofString "count") = False := eq_false (by decide +kernel)
@[simp] theorem sn_sum_kinds : (Str.ofString "sum" = Str.ofString "kinds") = False := eq_false (by decide +kernel)
@[simp] theorem sn_unlike_all : (Str.ofString "unlike" = Str.ofString "all") = False := eq_false (by decide +kernel)
@[simp] theorem sn_unlike_both : (Str.ofString "unlike" = Str.ofString "both") = False := eq_false (by decide +kernel)
@[simp] theorem sn_unlike_cap : (Str.ofString "unlike" = Str.ofString "cap") = False := eq_false (by decide +kernel)
@[simp] theorem sn_unlike_keep : (Str.ofString "unlike" = Str.ofString "keep") = False := eq_false (by decide +kernel)
@[simp] theorem sn_unlike_match : (Str.ofString "unlike" = Str.ofString "match") = False := eq_false (by decide +kernel)
@[simp] theorem sn_unlike_rows : (Str.ofString "unlike" = Str.ofString "rows") = False := eq_false (by decide +kernel)
theorem dIx_p0 (xs : List D) (a : D) : dIx (.tup (a :: xs)) (.int 0) = .ok a := by
  have : atI (a :: xs) 0 = some a := by simp [atI, ixN]
  show (match atI (a :: xs) 0 with | some d => Res.ok d | none => .bad) = _
  rw [this]
theorem dIx_p1 (xs : List D) (a b : D) : dIx (.tup (a :: b :: xs)) (.int 1) = .ok b := by
  have : atI (a :: b :: xs) 1 = some b := by
    have : (1 : Int) < ((xs.length : Nat) : Int) + 1 + 1 := by omega
    simp [atI, ixN, this]
  show (match atI (a :: b :: xs) 1 with | some d => Res.ok d | none => .bad) = _
  rw [this]
theorem dIx_p2 (xs : List D) (a b c : D) : dIx (.tup (a :: b :: c :: xs)) (.int 2) = .ok c := by
  have : atI (a :: b :: c :: xs) 2 = some c := by
    have : (2 : Int) < ((xs.length : Nat) : Int) + 1 + 1 + 1 := by omega
    simp [atI, ixN, this]
  show (match atI (a :: b :: c :: xs) 2 with | some d => Res.ok d | none => .bad) = _
  rw [this]
theorem dIx_p3 (xs : List D) (a b c d : D) : dIx (.tup (a :: b :: c :: d :: xs)) (.int 3) = .ok d := by
  have : atI (a :: b :: c :: d :: xs) 3 = some d := by
    have : (3 : Int) < ((xs.length : Nat) : Int) + 1 + 1 + 1 + 1 := by omega
    simp [atI, ixN, this]
  show (match atI (a :: b :: c :: d :: xs) 3 with | some d => Res.ok d | none => .bad) = _
  rw [this]
@[simp] theorem rawB_bl' (b : Bool) : rawB (.ok (.bl b)) = .ok b := rfl
theorem has_strs (x : Str) (xs : List Str) : D.has (xs.map D.str) (.str x) = decide (x ∈ xs) := by
  unfold D.has
  induction xs with
  | nil => rfl
  | cons a xs ih =>
    rw [List.map_cons, List.any_cons, ih]
    simp only [D.beq, D.py, PyData.eqv, List.mem_cons]
    by_cases e : a = x
    · subst e; simp
    · have : ¬ x = a := fun z => e z.symm
      simp [e, this]
theorem pls_strs {xs : List Str} (h : ∀ x ∈ xs, PyData.strOk x = true) (n : Nat) : D.pls (xs.map D.str) n = true := pls_all fun d hd => by
  obtain ⟨x, hx, rfl⟩ := List.mem_map.mp hd
  simpa [D.pl] using h x hx
theorem dInA_con {no : Bool} {x : Str} {xs : List Str} (hx : PyData.strOk x = true) (h : ∀ x ∈ xs, PyData.strOk x = true) : dInA no (.str x) (.con (xs.map D.str)) = .ok (.bl (decide (x ∈ xs) != no)) := by
  show (if (D.str x).pl 50 = true ∧ D.pls (xs.map D.str) 50 = true then Res.ok (D.bl (D.has (xs.map D.str) (.str x) != no)) else .bad) = _
  rw [if_pos ⟨by simpa [D.pl] using hx, pls_strs h 50⟩, has_strs]
theorem dInA_tup {no : Bool} {x : Str} {xs : List Str} (hx : PyData.strOk x = true) (h : ∀ x ∈ xs, PyData.strOk x = true) : dInA no (.str x) (.tup (xs.map D.str)) = .ok (.bl (decide (x ∈ xs) != no)) := by
  show (if (D.str x).pl 50 = true ∧ D.pls (xs.map D.str) 50 = true then Res.ok (D.bl (D.has (xs.map D.str) (.str x) != no)) else .bad) = _
  rw [if_pos ⟨by simpa [D.pl] using hx, pls_strs h 50⟩, has_strs]
theorem ask_in {x : Str} (hx : PyData.strOk x = true) : dInA false (.str x) (.con [.str "ask", .str "flat", .str "pick"]) = .ok (.bl (decide (x = "ask" ∨ x = "flat" ∨ x = "pick"))) := by
  have := dInA_con (no := false) (xs := ["ask", "flat", "pick"]) hx (by decide +kernel)
  rw [show [D.str "ask", D.str "flat", D.str "pick"] = ([("ask" : Str), "flat", "pick"]).map D.str from rfl, this]
  simp
theorem comp_map {α β γ : Type} {f : β → Res γ} {h : α → β} {g : α → γ} {l : List α} (hl : l.length ≤ 10000000) (k : ∀ a ∈ l, f (h a) = .ok (g a)) : DL.compR (l.map h) f = .ok (l.map g) := by
  have : ∀ l : List α, (∀ a ∈ l, f (h a) = .ok (g a)) → DL.mapR (l.map h) f = .ok (l.map g) := by
    intro l
    induction l with
    | nil => intro _; rfl
    | cons a l ih => intro k; rw [List.map_cons, DL.mapR, k a List.mem_cons_self, ih fun x hx => k x (List.mem_cons_of_mem _ hx)]; rfl
  unfold DL.compR
  rw [if_pos (fits_of (by rw [List.length_map]; exact hl)), this l k]
  rfl
theorem mul_nat {x y : Nat} (hx : x ≤ 1000000) (hy : y ≤ 1000000) : mulR (x : Int) (y : Int) = .ok ((x * y : Nat) : Int) := by rw [mulR_s (by omega) (by omega) (by omega) (by omega), Int.natCast_mul]
theorem le_of_mul {x y n : Nat} (h : x * y ≤ n) (hy : 1 ≤ y) : x ≤ n := Nat.le_trans (Nat.le_mul_of_pos_right _ hy) h
theorem dIx_p4 (xs : List D) (a b c d e : D) : dIx (.tup (a :: b :: c :: d :: e :: xs)) (.int 4) = .ok e := by
  have : atI (a :: b :: c :: d :: e :: xs) 4 = some e := by
    have : (4 : Int) < ((xs.length : Nat) : Int) + 1 + 1 + 1 + 1 + 1 := by omega
    simp [atI, ixN, this]
  show (match atI (a :: b :: c :: d :: e :: xs) 4 with | some d => Res.ok d | none => .bad) = _
  rw [this]
theorem dIx_p5 (xs : List D) (a b c d e f : D) : dIx (.tup (a :: b :: c :: d :: e :: f :: xs)) (.int 5) = .ok f := by
  have : atI (a :: b :: c :: d :: e :: f :: xs) 5 = some f := by
    have : (5 : Int) < ((xs.length : Nat) : Int) + 1 + 1 + 1 + 1 + 1 + 1 := by omega
    simp [atI, ixN, this]
  show (match atI (a :: b :: c :: d :: e :: f :: xs) 5 with | some d => Res.ok d | none => .bad) = _
  rw [this]
@[simp] theorem dIx_last (xs : List D) (a : D) : dIx (.tup (xs ++ [a])) (.int (-1)) = .ok a := by simp [dIx, atI_last]
@[simp] theorem dIx_last2 (a b : D) : dIx (.tup [a, b]) (.int (-1)) = .ok b := dIx_last [a] b
@[simp] theorem dIx_last3 (a b c : D) : dIx (.tup [a, b, c]) (.int (-1)) = .ok c := dIx_last [a, b] c
@[simp] theorem dIx_last4 (a b c d : D) : dIx (.tup [a, b, c, d]) (.int (-1)) = .ok d := dIx_last [a, b, c] d
theorem comp_true {l : List D} {f : D → Res Bool} (hl : l.length ≤ 10000000) (h : ∀ d ∈ l, f d = .ok true) : (DL.compR l f).bind (fun a => .ok (a.all fun b => b)) = .ok true := by
  have := comp_map (h := fun d : D => d) (g := fun _ => true) hl h
  rw [List.map_id'] at this
  rw [this, Res.bind_ok]
  congr 1
  exact List.all_eq_true.mpr fun b hb => by obtain ⟨_, _, rfl⟩ := List.mem_map.mp hb; rfl
/-! ### the gateway: names and fields of terms -/
theorem dSortS {l : List Str} (h : l.length ≤ 4000) (k : ∀ x ∈ l, PyData.strOk x = true) : dSortSet (.lst (l.map D.str)) = .ok (.lst ((sortS (nubL l)).map D.str)) := by
  have := o_sortSetS l (.lst (l.map D.str)) ⟨_, rfl, A2.fn.mpr rfl⟩
  rw [show sortSetS l = .ok (sortS (nubL l)) from if_pos ⟨h, k⟩] at this
  obtain ⟨d, e1, ds, rfl, r⟩ := this
  rw [e1, A2.fn.mp r]
theorem dSortI {l : List Int} (h : l.length ≤ 4000) : dSortSet (.lst (l.map D.int)) = .ok (.lst ((sortI (nubL l)).map D.int)) := by
  have := o_sortSetI l (.lst (l.map D.int)) ⟨_, rfl, A2.fn.mpr rfl⟩
  rw [sortSetI_ok h] at this
  obtain ⟨d, e1, ds, rfl, r⟩ := this
  rw [e1, A2.fn.mp r]
theorem dLenSetI {l : List Int} (h : l.length ≤ 4000) : dLenSet (.lst (l.map D.int)) = .ok (.int ((nubL l).length : Nat)) := by
  have := o_lenSetI l (.lst (l.map D.int)) ⟨_, rfl, A2.fn.mpr rfl⟩
  rw [lenSetR_ok h] at this
  obtain ⟨d, e1, e2⟩ := this
  rw [e1, show d = _ from e2]
theorem gath_walk {α : Type} {f : α → D} {P : α → Prop} {G : D → Str → Res (List D)} {kind : Str} {m : Nat} : ∀ (xs : List D) (acc : List α), (∀ x ∈ xs, ∃ ns : List α, G x kind = .ok (ns.map f) ∧ (∀ n ∈ ns, P n) ∧ ns.length ≤ m) → (∀ a ∈ acc, P a) → acc.length + xs.length * m ≤ 10000000 →
    ∃ ns : List α, DL.forR xs (acc.map f) (fun part6 s5 => ((G part6 kind).bind fun a8 => catR s5 a8).bind fun found7 => Res.ok found7) = .ok (ns.map f) ∧ (∀ n ∈ ns, P n) ∧ ns.length ≤ acc.length + xs.length * m
  | [], acc, _, h, _ => ⟨acc, rfl, h, by simp⟩
  | x :: xs, acc, h, ha, hl => by
    obtain ⟨ns, e, p, l⟩ := h x List.mem_cons_self
    rw [List.length_cons, Nat.succ_mul] at hl
    have := gath_walk (G := G) (kind := kind) (m := m) xs (acc ++ ns) (fun y hy => h y (List.mem_cons_of_mem _ hy)) (fun a ha' => (List.mem_append.mp ha').elim (ha a) (p a)) (by rw [List.length_append]; omega)
    obtain ⟨ms, e2, p2, l2⟩ := this
    refine ⟨ms, ?_, p2, by rw [List.length_append] at l2; rw [List.length_cons, Nat.succ_mul]; omega⟩
    show (((G x kind).bind fun a8 => catR (acc.map f) a8).bind fun found7 => Res.ok found7).bind _ = _
    rw [e, Res.bind_ok, catR_ok' (by rw [List.length_map, List.length_map]; omega), Res.bind_ok, Res.bind_ok, ← List.map_append]
    exact e2
theorem leaf_op {o : Str} {xs : List D} (hn : o ≠ "num" ∧ o ≠ "field" ∧ o ≠ "name") : t_is_leaf (.tup (.str o :: xs)) = .ok false := by
  unfold t_is_leaf
  simp [dIx_p0, hn]
def GathK (w : Nat) (kn : List Str) (m : Nat) (G : D → Str → Res (List D)) (t : D) : Prop :=
  (∃ ns : List Str, G t "name" = .ok (ns.map D.str) ∧ (∀ x ∈ ns, x ∈ kn) ∧ ns.length ≤ m) ∧ ∃ fs : List Int, G t "field" = .ok (fs.map D.int) ∧ (∀ k ∈ fs, 0 ≤ k ∧ k < (w : Int)) ∧ fs.length ≤ m
theorem gath_op {w : Nat} {kn : List Str} {m : Nat} {G : D → Str → Res (List D)} {o : Str} {xs : List D} (hn : o ≠ "num" ∧ o ≠ "field" ∧ o ≠ "name") (hl : xs.length ≤ 3) (hm : m ≤ 1000) (h : ∀ x ∈ xs, GathK w kn m G x) : GathK w kn (3 * m) (tb_gathered G) (.tup (.str o :: xs)) := by
  have cu : (dCut (some 1) none (.tup (.str o :: xs))).bind D.asItems = .ok xs := by
    show (Res.ok (D.tup (cutL (D.str o :: xs) (some 1) none))).bind D.asItems = _
    rw [show cutL (D.str o :: xs) (some 1) none = xs by unfold cutL; simp [HT.sIx]]
    rfl
  have b : xs.length * m ≤ 3 * m := Nat.mul_le_mul_right _ hl
  constructor
  · obtain ⟨ns, e, p, l⟩ := gath_walk (f := D.str) (G := G) (kind := "name") (m := m) (P := fun x => x ∈ kn) xs [] (fun x hx => (h x hx).1) (fun a ha => by cases ha) (by simp; omega)
    refine ⟨ns, ?_, p, by simp at l; omega⟩
    unfold tb_gathered
    rw [leaf_op hn, cu]
    simp only [Res.bind_ok, Bool.false_eq_true, if_false]
    rw [show ([] : List D) = ([] : List Str).map D.str from rfl, e]
    rfl
  · obtain ⟨ns, e, p, l⟩ := gath_walk (f := D.int) (G := G) (kind := "field") (m := m) (P := fun k => 0 ≤ k ∧ k < (w : Int)) xs [] (fun x hx => (h x hx).2) (fun a ha => by cases ha) (by simp; omega)
    refine ⟨ns, ?_, p, by simp at l; omega⟩
    unfold tb_gathered
    rw [leaf_op hn, cu]
    simp only [Res.bind_ok, Bool.false_eq_true, if_false]
    rw [show ([] : List D) = ([] : List Int).map D.int from rfl, e]
    rfl
theorem pow3 (n : Nat) : 1 ≤ 3 ^ n := Nat.pow_pos (by decide)
theorem TOk.gath {w : Nat} {kn : List Str} {n : Nat} {t : D} (h : TOk w kn n t) : n ≤ 6 → ∀ i : Nat, GathK w kn (3 ^ n) (u_gathered (n + i)) t := by
  have p6 : ∀ n, n ≤ 6 → 3 ^ n ≤ 1000 := by decide
  induction h with
  | @num n i h =>
    intro _ a
    rw [show n + 1 + a = n + a + 1 by omega]
    have := pow3 (n + 1)
    refine ⟨⟨[], ?_, by simp, by simp⟩, ⟨[], ?_, by simp, by simp⟩⟩ <;> (show tb_gathered _ _ _ = _; unfold tb_gathered t_is_leaf; simp [dIx_p0])
  | @field n k h =>
    intro _ a
    rw [show n + 1 + a = n + a + 1 by omega]
    have := pow3 (n + 1)
    refine ⟨⟨[], ?_, by simp, by simp⟩, ⟨[(k : Int)], ?_, by simp; omega, by simpa using this⟩⟩ <;> (show tb_gathered _ _ _ = _; unfold tb_gathered t_is_leaf; simp [dIx_p0, dIx_p1])
  | @name n x h =>
    intro _ a
    rw [show n + 1 + a = n + a + 1 by omega]
    have := pow3 (n + 1)
    refine ⟨⟨[x], ?_, by simpa using h, by simpa using this⟩, ⟨[], ?_, by simp, by simp⟩⟩ <;> (show tb_gathered _ _ _ = _; unfold tb_gathered t_is_leaf; simp [dIx_p0, dIx_p1])
  | @un n x h ih =>
    intro hn a
    rw [show n + 1 + a = n + a + 1 by omega, Nat.pow_succ, Nat.mul_comm]
    exact gath_op (G := u_gathered (n + a)) (xs := [x]) (by decide +kernel) (by simp) (p6 n (by omega)) fun d hd => by
      rw [List.mem_singleton] at hd; subst hd; exact ih (by omega) a
  | @bin n o x y ho h k ih ik =>
    intro hn a
    rw [show n + 1 + a = n + a + 1 by omega, Nat.pow_succ, Nat.mul_comm]
    exact gath_op (G := u_gathered (n + a)) (xs := [x, y]) (parts_bin o ho).2 (by simp) (p6 n (by omega)) fun d hd => by
      simp only [List.mem_cons, List.not_mem_nil, or_false] at hd
      rcases hd with rfl | rfl
      · exact ih (by omega) a
      · exact ik (by omega) a
  | @pick n x y z h k l ih ik il =>
    intro hn a
    rw [show n + 1 + a = n + a + 1 by omega, Nat.pow_succ, Nat.mul_comm]
    exact gath_op (G := u_gathered (n + a)) (xs := [x, y, z]) (by decide +kernel) (by simp) (p6 n (by omega)) fun d hd => by
      simp only [List.mem_cons, List.not_mem_nil, or_false] at hd
      rcases hd with rfl | rfl | rfl
      · exact ih (by omega) a
      · exact ik (by omega) a
      · exact il (by omega) a
theorem fLst_id (l : List D) : fLst (fun d => d) l = .lst l := by show D.lst (l.map _) = _; rw [List.map_id']
theorem TOk.fields {w : Nat} {kn : List Str} {t : D} (h : TOk w kn 3 t) : ∃ fs : List Int, t_fields_in t = .ok (fs.map D.int) ∧ (∀ k ∈ fs, 0 ≤ k ∧ k < (w : Int)) ∧ fs.length ≤ 27 := by
  obtain ⟨_, fs, e, p, l⟩ := h.gath (by decide) 9
  refine ⟨sortI (nubL fs), ?_, fun x hx => p x ((nubL_mem).mp ((sortI_perm _).mem_iff.mp hx)), by rw [(sortI_perm _).length_eq]; exact Nat.le_trans (nubL_len fs) l⟩
  unfold t_fields_in t_gathered
  have e' : u_gathered 12 t "field" = .ok (fs.map D.int) := e
  rw [e', Res.bind_ok, Res.bind_ok, fLst_id, dSortI (by omega)]
  rfl
theorem TOk.names {w : Nat} {kn : List Str} (hk : Txts kn) {t : D} (h : TOk w kn 3 t) : ∃ ns : List Str, t_names_in t = .ok (ns.map D.str) ∧ (∀ x ∈ ns, x ∈ kn) ∧ ns.length ≤ 27 := by
  obtain ⟨⟨ns, e, p, l⟩, _⟩ := h.gath (by decide) 9
  refine ⟨sortS (nubL ns), ?_, fun x hx => p x ((nubL_mem).mp ((sortS_perm _).mem_iff.mp hx)), by rw [(sortS_perm _).length_eq]; exact Nat.le_trans (nubL_len ns) l⟩
  unfold t_names_in t_gathered
  have e' : u_gathered 12 t "name" = .ok (ns.map D.str) := e
  rw [e', Res.bind_ok, Res.bind_ok, fLst_id, dSortS (by omega) fun x hx => hk x (p x hx)]
  rfl
/-! ### the gateway: how wide views are, what names stand there -/
theorem own_walk : ∀ (Ls : List (List D)) (acc : List D), (∀ L ∈ Ls, L.length ≤ 4) → acc.length + Ls.length * 4 ≤ 10000000 →
    DL.forR (Ls.map D.tup) acc (fun some_8 s7 => ((D.asT some_8).bind fun a10 => catR s7 a10).bind fun terms9 => Res.ok terms9) = .ok (acc ++ Ls.flatten)
  | [], acc, _, _ => by simp [DL.forR]
  | L :: Ls, acc, h, hl => by
    rw [List.length_cons] at hl
    have l4 := h L List.mem_cons_self
    show (((D.asT (.tup L)).bind fun a10 => catR acc a10).bind fun terms9 => Res.ok terms9).bind _ = _
    rw [show D.asT (.tup L) = .ok L from rfl, Res.bind_ok, catR_ok' (by omega), Res.bind_ok, Res.bind_ok]
    show DL.forR (Ls.map D.tup) (acc ++ L) _ = _
    rw [own_walk Ls (acc ++ L) (fun x hx => h x (List.mem_cons_of_mem _ hx)) (by rw [List.length_append]; omega)]
    simp
section
variable {t u v : D} {k : D}
theorem ot_keep : t_own_terms (.tup [.str "keep", t, v]) = .ok [t] := by unfold t_own_terms; simp [dIx_p0, dIx_p1]
theorem ot_unlike : t_own_terms (.tup [.str "unlike", v]) = .ok [] := by unfold t_own_terms; simp [dIx_p0]
theorem ot_both : t_own_terms (.tup [.str "both", v, u]) = .ok [] := by unfold t_own_terms; simp [dIx_p0]
theorem ot_all : t_own_terms (.tup [.str "all"]) = .ok [] := by unfold t_own_terms; simp [dIx_p0]
theorem ot_cap : t_own_terms (.tup [.str "cap", t, k, v]) = .ok [t] := by unfold t_own_terms; simp [dIx_p0, dIx_p1]
theorem ot_match : t_own_terms (.tup [.str "match", u, t, v]) = .ok [t] := by unfold t_own_terms; simp [dIx_p0, dIx_p2]
theorem ot_rows {Ls : List (List D)} (h : ∀ L ∈ Ls, L.length ≤ 4) (hl : Ls.length ≤ 4) : t_own_terms (.tup [.str "rows", .tup (Ls.map D.tup), v]) = .ok Ls.flatten := by
  have := own_walk Ls [] h (by simp; omega)
  rw [List.nil_append] at this
  unfold t_own_terms
  simp [dIx_p0, dIx_p1, asItems_tup, this]
theorem iv_keep : t_inner_views (.tup [.str "keep", t, v]) = .ok [v] := by unfold t_inner_views; simp [dIx_p0]
theorem iv_unlike : t_inner_views (.tup [.str "unlike", v]) = .ok [v] := by unfold t_inner_views; simp [dIx_p0]
theorem iv_both : t_inner_views (.tup [.str "both", v, u]) = .ok [v, u] := by unfold t_inner_views; simp [dIx_p0, dIx_p1, dIx_p2]
theorem iv_all : t_inner_views (.tup [.str "all"]) = .ok [] := by unfold t_inner_views; simp [dIx_p0]
theorem iv_cap : t_inner_views (.tup [.str "cap", t, k, v]) = .ok [v] := by unfold t_inner_views; simp [dIx_p0]
theorem iv_match : t_inner_views (.tup [.str "match", u, t, v]) = .ok [v] := by unfold t_inner_views; simp [dIx_p0]
theorem iv_rows : t_inner_views (.tup [.str "rows", t, v]) = .ok [v] := by unfold t_inner_views; simp [dIx_p0]
end
theorem nub_one {α : Type} [DecidableEq α] {l : List α} {a : α} (h : ∀ x ∈ l, x = a) : (nubL l).length ≤ 1 := by
  have nd := nubL_nodup l
  have hm : ∀ x ∈ nubL l, x = a := fun x hx => h x (nubL_mem.mp hx)
  match hq : nubL l, nd, hm with
  | [], _, _ => simp
  | [_], _, _ => simp
  | x :: y :: r, nd, hm =>
    exfalso
    have e1 := hm x (by simp)
    have e2 := hm y (by simp)
    rw [e1, e2] at nd
    simp at nd
theorem alike_ints' {l : List Int} {a : Int} (hl : l.length ≤ 4000) (h : ∀ x ∈ l, x = a) : t_all_alike (.lst (l.map D.int)) = .ok true := by
  unfold t_all_alike
  rw [dLenSetI hl]
  have := nub_one h
  have e : decide (((nubL l).length : Int) ≤ 1) = true := by simp; omega
  simp only [Res.bind_ok, D.asI, e]
theorem width_step {G : D → Int → Res D} {v : D} {w : Int} {W0 : Nat} {kn : List Str} {vs ts : List D} (h0 : ((dIx v (.int 0)).bind fun a1 => (rawB (dEq a1 (D.str ("all" : Str))))) = .ok false) (hi : t_inner_views v = .ok vs) (hv : 1 ≤ vs.length ∧ vs.length ≤ 2)
    (hG : ∀ u ∈ vs, G u w = .ok (.int W0)) (ho : t_own_terms v = .ok ts) (ht : ∀ t ∈ ts, TOk W0 kn 3 t) :
    tb_width_of G v w = ((((dIx v (D.int (0 : Int))).bind fun a12 => (rawB (dEq a12 (D.str ("rows" : Str))))).bind fun z => if z = true then .ok true else ((dIx v (D.int (0 : Int))).bind fun a14 => (rawB (dEq a14 (D.str ("match" : Str)))))).bind fun z => if z = true then t_width_made v W0 else .ok (.int W0)) := by
  have cm : DL.compR vs (fun one3 => G one3 w) = .ok ((vs.map fun _ => (W0 : Int)).map D.int) := by
    have := comp_map (h := fun d : D => d) (g := fun _ => D.int (W0 : Int)) (f := fun one3 => G one3 w) (l := vs) (by omega) hG
    rw [List.map_id'] at this
    rw [this, List.map_map]
    rfl
  obtain ⟨u, r, rfl⟩ : ∃ u r, vs = u :: r := by
    cases vs with
    | nil => simp at hv
    | cons a b => exact ⟨a, b, rfl⟩
  have al := alike_ints' (l := (u :: r).map fun _ => (W0 : Int)) (a := W0) (by rw [List.length_map]; omega) (fun x hx => by obtain ⟨_, _, rfl⟩ := List.mem_map.mp hx; rfl)
  have nn : rawB (dInA false .non (.lst (((u :: r).map fun _ => (W0 : Int)).map D.int))) = .ok false := by
    show rawB (if (D.non).pl 50 = true ∧ D.pls (((u :: r).map fun _ => (W0 : Int)).map D.int) 50 = true then Res.ok (D.bl (D.has (((u :: r).map fun _ => (W0 : Int)).map D.int) .non != false)) else .bad) = _
    rw [if_pos ⟨by simp [D.pl], pls_all fun d hd => by obtain ⟨z, _, rfl⟩ := List.mem_map.mp hd; simp [D.pl]⟩]
    have : D.has (((u :: r).map fun _ => (W0 : Int)).map D.int) .non = false := by
      unfold D.has
      rw [List.any_eq_false]
      intro d hd
      obtain ⟨z, _, rfl⟩ := List.mem_map.mp hd
      simp [D.beq, D.py, PyData.eqv]
    rw [this]
    rfl
  have g0 : getL (((u :: r).map fun _ => (W0 : Int)).map D.int) (0 : Int) = .ok (.int W0) := by rw [List.map_cons, List.map_cons]; exact getL_zero _ _
  unfold tb_width_of
  rw [h0, hi]
  simp only [Res.bind_ok, Bool.false_eq_true, if_false, cm, fLst_id, nn, al, Bool.not_true, ho, g0, D.asI]
  rw [forX_all fun t h => ?_]
  · rfl
  · obtain ⟨fs, e, p, l⟩ := (ht t h).fields
    rw [e, Res.bind_ok]
    by_cases hz : (0 : Int) < (((fs.map D.int).length : Nat) : Int)
    · obtain ⟨d, hd, e2⟩ := getL_mem (l := fs.map D.int) (i := -1) (by omega) (by omega)
      obtain ⟨k, hk, rfl⟩ := List.mem_map.mp hd
      have : decide ((W0 : Int) ≤ k) = false := by have := (p k hk).2; simp; omega
      rw [if_pos hz, e2]
      simp [D.asI, this]
    · rw [if_neg hz]; rfl
theorem wm_rows {Ls : List (List D)} {d : Nat} {v : D} {W0 : Int} (hl : 1 ≤ Ls.length ∧ Ls.length ≤ 4) (h : ∀ L ∈ Ls, L.length = d) : t_width_made (.tup [.str "rows", .tup (Ls.map D.tup), v]) W0 = .ok (.int d) := by
  have cm : DL.compR (Ls.map D.tup) (fun some_3 => ((dLen some_3).bind D.asI)) = .ok (Ls.map fun L => (L.length : Int)) := comp_map (by omega) fun L _ => rfl
  have al := alike_ints' (l := Ls.map fun L => (L.length : Int)) (a := d) (by rw [List.length_map]; omega) (fun x hx => by obtain ⟨L, hL, rfl⟩ := List.mem_map.mp hx; rw [h L hL])
  obtain ⟨L, r, rfl⟩ : ∃ u r, Ls = u :: r := by
    cases Ls with
    | nil => simp at hl
    | cons a b => exact ⟨a, b, rfl⟩
  have g0 : getL ((L :: r).map fun L => (L.length : Int)) (0 : Int) = .ok (d : Int) := by rw [List.map_cons, getL_zero, h L List.mem_cons_self]
  unfold t_width_made
  have al' : t_all_alike (fLst D.int ((L :: r).map fun L => (L.length : Int))) = .ok true := al
  simp only [dIx_p0, dIx_p1, Res.bind_ok, dEq_ss, decide_true, if_true, asItems_tup, cm, al', Bool.not_true, Bool.false_eq_true, if_false, g0]
theorem wm_match {ps : List (Int × List Int)} {d : Nat} {t v : D} {W0 : Nat} (hl : 1 ≤ ps.length ∧ ps.length ≤ 8) (h : ∀ p ∈ ps, p.2.length = d) (hw : W0 + d ≤ 4) : t_width_made (.tup [.str "match", .tup (ps.map pairP), t, v]) W0 = .ok (.int ((W0 + d : Nat) : Int)) := by
  have cm : DL.compR (ps.map pairP) (fun pair6 => (((dIx pair6 (D.int (1 : Int))).bind fun a7 => (dLen a7)).bind D.asI)) = .ok (ps.map fun p => (p.2.length : Int)) := comp_map (by omega) fun p _ => by
    unfold pairP ans
    rw [dIx_p1, Res.bind_ok, asI_len, List.length_map]
  have al := alike_ints' (l := ps.map fun p => (p.2.length : Int)) (a := d) (by rw [List.length_map]; omega) (fun x hx => by obtain ⟨L, hL, rfl⟩ := List.mem_map.mp hx; rw [h L hL])
  have c0 : (0 : Int) < (((ps.map fun p => (p.2.length : Int)).length : Nat) : Int) := by rw [List.length_map]; omega
  obtain ⟨L, r, rfl⟩ : ∃ u r, ps = u :: r := by
    cases ps with
    | nil => simp at hl
    | cons a b => exact ⟨a, b, rfl⟩
  have g0 : getL ((L :: r).map fun p => (p.2.length : Int)) (0 : Int) = .ok (d : Int) := by rw [List.map_cons, getL_zero, h L List.mem_cons_self]
  have al' : t_all_alike (fLst D.int ((L :: r).map fun p => (p.2.length : Int))) = .ok true := al
  have c4 : ¬ (4 : Int) < (W0 : Int) + (d : Int) := by omega
  unfold t_width_made
  have sn : decide (Str.ofString "match" = Str.ofString "rows") = false := by decide +kernel
  simp only [dIx_p0, dIx_p1, Res.bind_ok, dEq_ss, sn, if_true, asItems_tup, cm, al', Bool.not_true, Bool.false_eq_true, if_false, g0, c0, c4]
  rw [Int.natCast_add]
/-! ### views: how wide, how deep, what names stand there -/
def abc : List Str := [("a" : Str), ("b" : Str), ("c" : Str)]
theorem abc_txt : Txts abc := by unfold Txts abc; decide +kernel
abbrev NmOk (m : List (Str × Int)) : Prop := True
def TmF (W : Nat) (m : List (Str × Int)) (t : D) : Prop := TOk W abc 3 t
def TmT (W : Nat) (m : List (Str × Int)) (t : D) : Prop := TOk W abc 3 t ∧ NmOk m
theorem TmT.ok {W : Nat} {m : List (Str × Int)} {t : D} (h : TmT W m t) : TmF W m t := h.1
/-- a name stands in a term -/
def Nm (t : D) (x : Str) : Prop := ∃ ns : List Str, t_names_in t = .ok (ns.map D.str) ∧ x ∈ ns
theorem str_inj : ∀ {a b : List Str}, a.map D.str = b.map D.str → a = b
  | [], [], _ => rfl
  | a :: l, b :: m, h => by
    rw [List.map_cons, List.map_cons] at h
    injection h with h1 h2
    injection h1 with h1
    rw [h1, str_inj h2]
theorem nm_iff {t : D} {ns : List Str} (h : t_names_in t = .ok (ns.map D.str)) (x : Str) : Nm t x ↔ x ∈ ns := by
  constructor
  · rintro ⟨ms, e, hx⟩
    rw [h] at e
    have := str_inj (Res.ok.inj e)
    rw [this]; exact hx
  · exact fun hx => ⟨ns, h, hx⟩
/-- the keys are these names -/
structure KS (m : List (Str × Bool)) (P : Str → Prop) : Prop where
  nd : (m.map (·.1)).Nodup
  ks : ∀ x, x ∈ m.map (·.1) ↔ P x
  inn : ∀ x ∈ m.map (·.1), x ∈ abc
theorem KS.len {m : List (Str × Bool)} {P : Str → Prop} (h : KS m P) : m.length ≤ 3 := by
  have := List.Nodup.length_le_of_subset h.nd h.inn
  rwa [List.length_map] at this
theorem KS.nil : KS [] fun _ => False := ⟨List.nodup_nil, fun x => by simp, fun x hx => by cases hx⟩
theorem KS.put {m : List (Str × Bool)} {P : Str → Prop} (h : KS m P) {x : Str} (hx : x ∈ abc) (b : Bool) : KS (putG m x b) fun y => P y ∨ y = x := by
  have hk := put_keysG m x b
  refine ⟨?_, fun y => ?_, fun y hy => ?_⟩
  · rw [hk]
    split
    · exact h.nd
    · rename_i hn
      rw [List.nodup_append]
      refine ⟨h.nd, by simp, fun a ha b hb e => ?_⟩
      rw [List.mem_singleton] at hb
      subst hb
      subst e
      exact hn ha
  · rw [hk]
    split
    · rename_i hp
      rw [h.ks y]
      exact ⟨.inl, fun q => q.elim id fun z => by rw [z]; exact (h.ks x).mp hp⟩
    · rw [List.mem_append, List.mem_singleton, h.ks y]
  · rw [hk] at hy
    split at hy
    · exact h.inn y hy
    · rcases List.mem_append.mp hy with hy | hy
      · exact h.inn y hy
      · rw [List.mem_singleton] at hy; subst hy; exact hx
theorem KS.imp {m : List (Str × Bool)} {P Q : Str → Prop} (h : KS m P) (e : ∀ x, P x ↔ Q x) : KS m Q := ⟨h.nd, fun x => (h.ks x).trans (e x), h.inn⟩
theorem KS.putR {m : List (Str × Bool)} {P : Str → Prop} (h : KS m P) (x : Str) (b : Bool) : putDR m x b = .ok (putG m x b) := if_pos (by have := h.len; rw [PySem.sizeLine_eq]; omega)
theorem KS.sort {m : List (Str × Bool)} {P : Str → Prop} (h : KS m P) : sortSR (m.map (·.1)) = .ok (sortS (m.map (·.1))) := if_pos ⟨by rw [List.length_map]; have := h.len; omega, fun x hx => abc_txt x (h.inn x hx)⟩
theorem KS.same {m n : List (Str × Bool)} {P : Str → Prop} (h : KS m P) (k : KS n P) : sortS (m.map (·.1)) = sortS (n.map (·.1)) := sortS_ext ((List.perm_ext_iff_of_nodup h.nd k.nd).mpr fun x => (h.ks x).trans (k.ks x).symm)
theorem ks_in : ∀ (ns : List Str) (m : List (Str × Bool)) (P : Str → Prop), (∀ x ∈ ns, x ∈ abc) → KS m P →
    ∃ m', DL.forR (ns.map D.str) m (fun name9 s8 => ((D.asS name9).bind fun b12 => putDR s8 b12 true).bind fun due10 => Res.ok due10) = .ok m' ∧ KS m' fun y => P y ∨ y ∈ ns
  | [], m, P, _, h => ⟨m, rfl, h.imp fun x => by simp⟩
  | x :: ns, m, P, hx, h => by
    obtain ⟨m', e, k⟩ := ks_in ns (putG m x true) _ (fun y hy => hx y (List.mem_cons_of_mem _ hy)) (h.put (hx x List.mem_cons_self) true)
    refine ⟨m', ?_, k.imp fun y => by rw [List.mem_cons, or_assoc]⟩
    show (((D.asS (.str x)).bind fun b12 => putDR m b12 true).bind fun due10 => Res.ok due10).bind _ = _
    rw [show D.asS (.str x) = .ok x from rfl, Res.bind_ok, h.putR, Res.bind_ok, Res.bind_ok]
    exact e
theorem ks_in2 : ∀ (ns : List Str) (m : List (Str × Bool)) (P : Str → Prop), (∀ x ∈ ns, x ∈ abc) → KS m P →
    ∃ m', DL.forR ns m (fun name14 s13 => (putDR s13 name14 true).bind fun found15 => Res.ok found15) = .ok m' ∧ KS m' fun y => P y ∨ y ∈ ns
  | [], m, P, _, h => ⟨m, rfl, h.imp fun x => by simp⟩
  | x :: ns, m, P, hx, h => by
    obtain ⟨m', e, k⟩ := ks_in2 ns (putG m x true) _ (fun y hy => hx y (List.mem_cons_of_mem _ hy)) (h.put (hx x List.mem_cons_self) true)
    refine ⟨m', ?_, k.imp fun y => by rw [List.mem_cons, or_assoc]⟩
    show ((putDR m x true).bind fun due10 => Res.ok due10).bind _ = _
    rw [h.putR, Res.bind_ok, Res.bind_ok]
    exact e
def TA (t : D) : Prop := ∃ w, TOk w abc 3 t
theorem ks_terms : ∀ (ts : List D) (m : List (Str × Bool)) (P : Str → Prop), (∀ t ∈ ts, TA t) → KS m P →
    ∃ m', DL.forR ts m (fun term3 s2 => ((t_names_in term3).bind fun l9 => DL.forR l9 s2 (fun name9 s8 => ((D.asS name9).bind fun b12 => putDR s8 b12 true).bind fun due10 => Res.ok due10)).bind fun s4 => Res.ok s4) = .ok m' ∧ KS m' fun y => P y ∨ ∃ t ∈ ts, Nm t y
  | [], m, P, _, h => ⟨m, rfl, h.imp fun x => by simp⟩
  | t :: ts, m, P, ht, h => by
    obtain ⟨w, tw⟩ := ht t List.mem_cons_self
    obtain ⟨ns, e, p, _⟩ := tw.names abc_txt
    obtain ⟨m1, e1, k1⟩ := ks_in ns m P p h
    obtain ⟨m', e2, k2⟩ := ks_terms ts m1 _ (fun y hy => ht y (List.mem_cons_of_mem _ hy)) k1
    refine ⟨m', ?_, k2.imp fun y => ?_⟩
    · show (((t_names_in t).bind fun l9 => DL.forR l9 m _).bind fun s4 => Res.ok s4).bind _ = _
      rw [e, Res.bind_ok, e1, Res.bind_ok, Res.bind_ok]
      exact e2
    · rw [← nm_iff e]
      simp only [List.mem_cons, exists_eq_or_imp, or_assoc]
theorem ks_views {G : D → Res (List Str)} {Q : D → Str → Prop} : ∀ (vs : List D) (m : List (Str × Bool)) (P : Str → Prop), (∀ v ∈ vs, ∃ ns, G v = .ok ns ∧ (∀ x, x ∈ ns ↔ Q v x) ∧ ∀ x ∈ ns, x ∈ abc) → KS m P →
    ∃ m', DL.forR vs m (fun one12 s11 => ((G one12).bind fun l16 => DL.forR l16 s11 (fun name14 s13 => (putDR s13 name14 true).bind fun found15 => Res.ok found15)).bind fun s13 => Res.ok s13) = .ok m' ∧ KS m' fun y => P y ∨ ∃ v ∈ vs, Q v y
  | [], m, P, _, h => ⟨m, rfl, h.imp fun x => by simp⟩
  | v :: vs, m, P, hv, h => by
    obtain ⟨ns, e, q, p⟩ := hv v List.mem_cons_self
    obtain ⟨m1, e1, k1⟩ := ks_in2 ns m P p h
    obtain ⟨m', e2, k2⟩ := ks_views vs m1 _ (fun y hy => hv y (List.mem_cons_of_mem _ hy)) k1
    refine ⟨m', ?_, k2.imp fun y => ?_⟩
    · show (((G v).bind fun l16 => DL.forR l16 m _).bind fun s13 => Res.ok s13).bind _ = _
      rw [e, Res.bind_ok, e1, Res.bind_ok, Res.bind_ok]
      exact e2
    · rw [q y]
      simp only [List.mem_cons, exists_eq_or_imp, or_assoc]
/-- what is told of a view: how deep, its terms, the names there -/
structure VN (j : Nat) (v : D) (ts : List D) : Prop where
  dp : ∀ i, u_view_depth (j + i) v = .ok (j : Int)
  tm : ∀ i, u_l_terms (j + i) v = .ok ts
  tk : ∀ t ∈ ts, TA t
  ln : ts.length ≤ 12 * 2 ^ j
  nm : ∃ m, KS m (fun x => ∃ t ∈ ts, Nm t x) ∧ ∀ i, u_view_names (j + i) v = .ok (sortS (m.map (·.1)))
theorem VN.up {j k : Nat} {v : D} {ts : List D} (h : VN j v ts) (hk : j ≤ k) : (∀ i, u_view_depth (k + i) v = .ok (j : Int)) ∧ (∀ i, u_l_terms (k + i) v = .ok ts) ∧ ∃ m, KS m (fun x => ∃ t ∈ ts, Nm t x) ∧ ∀ i, u_view_names (k + i) v = .ok (sortS (m.map (·.1))) := by
  have e : ∀ i, k + i = j + (k - j + i) := fun i => by omega
  obtain ⟨m, a, b⟩ := h.nm
  exact ⟨fun i => by rw [e]; exact h.dp _, fun i => by rw [e]; exact h.tm _, m, a, fun i => by rw [e]; exact b _⟩
theorem names_step {G : D → Res (List Str)} {v : D} {own vs : List D} {Q : D → Str → Prop} (ho : t_own_terms v = .ok own) (hi : t_inner_views v = .ok vs) (ht : ∀ t ∈ own, TA t) (hv : ∀ v ∈ vs, ∃ ns, G v = .ok ns ∧ (∀ x, x ∈ ns ↔ Q v x) ∧ ∀ x ∈ ns, x ∈ abc) :
    ∃ m, KS m (fun x => (∃ t ∈ own, Nm t x) ∨ ∃ v ∈ vs, Q v x) ∧ tb_view_names G v = .ok (sortS (m.map (·.1))) := by
  obtain ⟨m1, e1, k1⟩ := ks_terms own [] _ ht KS.nil
  obtain ⟨m2, e2, k2⟩ := ks_views (G := G) (Q := Q) vs m1 _ hv k1
  refine ⟨m2, k2.imp fun x => by simp, ?_⟩
  unfold tb_view_names
  rw [ho, hi]
  simp only [Res.bind_ok]
  rw [e1, Res.bind_ok, e2, Res.bind_ok]
  exact k2.sort
theorem dep_one {G : D → Res Int} {v u : D} {j : Nat} (hi : t_inner_views v = .ok [u]) (h : G u = .ok (j : Int)) : tb_view_depth G v = .ok ((j + 1 : Nat) : Int) := by
  unfold tb_view_depth
  rw [hi, Res.bind_ok, compR_fn (g := fun _ => (j : Int)) (by simp) (fun a ha => by rw [List.mem_singleton] at ha; rw [ha]; exact h)]
  show Res.ok (1 + (j : Int)) = _
  congr 1
  omega
theorem dep_two {G : D → Res Int} {v u w : D} {j k : Nat} (hi : t_inner_views v = .ok [u, w]) (h : G u = .ok (j : Int)) (h' : G w = .ok (k : Int)) : tb_view_depth G v = .ok ((max j k + 1 : Nat) : Int) := by
  have c : DL.compR [u, w] (fun one1 => (G one1)) = .ok [(j : Int), (k : Int)] := by
    unfold DL.compR
    rw [if_pos (fits_of (by simp)), DL.mapR, h]
    simp only [Res.bind_ok]
    rw [DL.mapR, h']
    rfl
  unfold tb_view_depth
  rw [hi, Res.bind_ok, c]
  show Res.ok (1 + max (j : Int) (k : Int)) = _
  congr 1
  omega
section
variable {G : D → Res (List D)} {t u v k : D} {b c : List D}
theorem lt_all : tb_l_terms G (.tup [.str "all"]) = .ok [] := by unfold tb_l_terms; simp [dIx_p0]
theorem lt_keep (h : G v = .ok b) (hl : b.length ≤ 100000) : tb_l_terms G (.tup [.str "keep", t, v]) = .ok (t :: b) := by unfold tb_l_terms; simp [dIx_p0, dIx_p1, h, catR_ok' (a := [t]) (b := b) (by simp; omega)]
theorem lt_cap (h : G v = .ok b) (hl : b.length ≤ 100000) : tb_l_terms G (.tup [.str "cap", t, k, v]) = .ok (t :: b) := by unfold tb_l_terms; simp [dIx_p0, dIx_p1, h, catR_ok' (a := [t]) (b := b) (by simp; omega)]
theorem lt_unlike (h : G v = .ok b) (hl : b.length ≤ 100000) : tb_l_terms G (.tup [.str "unlike", v]) = .ok b := by unfold tb_l_terms; simp [dIx_p0, h, catR_ok' (a := []) (b := b) (by simp; omega)]
theorem lt_match (h : G v = .ok b) (hl : b.length ≤ 100000) : tb_l_terms G (.tup [.str "match", u, t, v]) = .ok (t :: b) := by unfold tb_l_terms; simp [dIx_p0, dIx_p2, h, catR_ok' (a := [t]) (b := b) (by simp; omega)]
theorem lt_both (h : G v = .ok b) (h' : G u = .ok c) (hl : b.length + c.length ≤ 100000) : tb_l_terms G (.tup [.str "both", v, u]) = .ok (b ++ c) := by unfold tb_l_terms; simp [dIx_p0, dIx_p1, dIx_p2, h, h', catR_ok' (a := b) (b := c) (by omega)]
theorem lt_rows {Ls : List (List D)} (h : G v = .ok b) (hl : b.length ≤ 100000) (hL : ∀ L ∈ Ls, L.length ≤ 4) (hn : Ls.length ≤ 4) : tb_l_terms G (.tup [.str "rows", .tup (Ls.map D.tup), v]) = .ok (Ls.flatten ++ b) := by
  have w := own_walk Ls [] hL (by simp; omega)
  rw [List.nil_append] at w
  have fl : Ls.flatten.length ≤ 16 := by
    have : ∀ Ls : List (List D), (∀ L ∈ Ls, L.length ≤ 4) → Ls.flatten.length ≤ Ls.length * 4 := by
      intro Ls
      induction Ls with
      | nil => intro _; simp
      | cons L Ls ih =>
        intro h
        have := h L List.mem_cons_self
        have := ih fun x hx => h x (List.mem_cons_of_mem _ hx)
        rw [List.flatten_cons, List.length_append, List.length_cons]
        omega
    have := this Ls hL
    omega
  unfold tb_l_terms
  simp [dIx_p0, dIx_p1, asItems_tup, w, h, catR_ok' (a := Ls.flatten) (b := b) (by omega)]
end
theorem pw2 (j : Nat) : 1 ≤ 2 ^ j := Nat.pow_pos (by decide)
theorem VN.q {j k : Nat} {v : D} {ts : List D} (h : VN j v ts) (hk : j ≤ k) (i : Nat) : ∃ ns, u_view_names (k + i) v = .ok ns ∧ (∀ x, x ∈ ns ↔ ∃ t ∈ ts, Nm t x) ∧ ∀ x ∈ ns, x ∈ abc := by
  obtain ⟨_, _, m, a, b⟩ := h.up hk
  refine ⟨_, b i, fun x => ?_, fun x hx => a.inn x ((sortS_perm _).mem_iff.mp hx)⟩
  rw [(sortS_perm _).mem_iff, a.ks x]
/-- a form round one view -/
theorem VN.one {j : Nat} {v u : D} {own ts : List D} (h : VN j u ts) (ho : t_own_terms v = .ok own) (hi : t_inner_views v = .ok [u]) (ht : ∀ t ∈ own, TA t) (hl : own.length ≤ 12) (hterm : ∀ i, tb_l_terms (u_l_terms (j + i)) v = .ok (own ++ ts)) : VN (j + 1) v (own ++ ts) where
  dp := fun i => by rw [Nat.add_right_comm]; exact dep_one (G := u_view_depth (j + i)) hi (h.dp i)
  tm := fun i => by rw [Nat.add_right_comm]; exact hterm i
  tk := fun t h' => (List.mem_append.mp h').elim (ht t) (h.tk t)
  ln := by
    have := h.ln
    have := pw2 j
    rw [List.length_append, Nat.pow_succ]
    omega
  nm := by
    have st : ∀ i, ∃ m, KS m (fun x => (∃ t ∈ own, Nm t x) ∨ ∃ w ∈ [u], ∃ t ∈ ts, Nm t x) ∧ tb_view_names (u_view_names (j + i)) v = .ok (sortS (m.map (·.1))) := fun i =>
      names_step (G := u_view_names (j + i)) (Q := fun _ x => ∃ t ∈ ts, Nm t x) ho hi ht fun w hw => by rw [List.mem_singleton] at hw; subst hw; exact h.q (Nat.le_refl j) i
    have sp : ∀ x, ((∃ t ∈ own, Nm t x) ∨ ∃ w ∈ [u], ∃ t ∈ ts, Nm t x) ↔ ∃ t ∈ own ++ ts, Nm t x := fun x => by
      simp only [List.mem_append, List.mem_singleton, exists_eq_left, or_and_right, exists_or]
    obtain ⟨m, k, _⟩ := st 0
    refine ⟨m, k.imp sp, fun i => ?_⟩
    obtain ⟨m', k', e⟩ := st i
    rw [Nat.add_right_comm]
    refine (show tb_view_names (u_view_names (j + i)) v = _ from e).trans ?_
    rw [k'.same k]
theorem VN.two {j k : Nat} {u w : D} {ts us : List D} (h : VN j u ts) (h' : VN k w us) (j8 : j ≤ 8) (k8 : k ≤ 8) : VN (max j k + 1) (.tup [.str "both", u, w]) (ts ++ us) := by
  obtain ⟨a1, a2, _⟩ := h.up (Nat.le_max_left j k)
  obtain ⟨b1, b2, _⟩ := h'.up (Nat.le_max_right j k)
  have l1 := h.ln
  have l2 := h'.ln
  have p1 : 2 ^ j ≤ 2 ^ max j k := Nat.pow_le_pow_right (by decide) (Nat.le_max_left j k)
  have p2 : 2 ^ k ≤ 2 ^ max j k := Nat.pow_le_pow_right (by decide) (Nat.le_max_right j k)
  have p3 : 2 ^ max j k ≤ 2 ^ 8 := Nat.pow_le_pow_right (by decide) (by omega)
  refine ⟨fun i => by rw [Nat.add_right_comm]; exact dep_two (G := u_view_depth (max j k + i)) iv_both (a1 i) (b1 i), fun i => by rw [Nat.add_right_comm]; exact lt_both (G := u_l_terms (max j k + i)) (a2 i) (b2 i) (by omega), fun t h'' => (List.mem_append.mp h'').elim (h.tk t) (h'.tk t), by rw [List.length_append, Nat.pow_succ]; omega, ?_⟩
  have st : ∀ i, ∃ m, KS m (fun x => (∃ t ∈ ([] : List D), Nm t x) ∨ ∃ z ∈ [u, w], ((z = u ∧ ∃ t ∈ ts, Nm t x) ∨ (z = w ∧ ∃ t ∈ us, Nm t x))) ∧ tb_view_names (u_view_names (max j k + i)) (.tup [.str "both", u, w]) = .ok (sortS (m.map (·.1))) := fun i =>
    names_step (G := u_view_names (max j k + i)) (Q := fun z x => (z = u ∧ ∃ t ∈ ts, Nm t x) ∨ (z = w ∧ ∃ t ∈ us, Nm t x)) ot_both iv_both (fun t ht => by cases ht) fun z hz => by
      simp only [List.mem_cons, List.not_mem_nil, or_false] at hz
      obtain ⟨n1, f1, g1, i1⟩ := h.q (Nat.le_max_left j k) i
      obtain ⟨n2, f2, g2, i2⟩ := h'.q (Nat.le_max_right j k) i
      by_cases e : u = w
      · subst e
        have hz : z = u := by rcases hz with hz | hz <;> exact hz
        subst hz
        have en : n1 = n2 := Res.ok.inj (f1.symm.trans f2)
        subst en
        refine ⟨n1, f1, fun x => ⟨fun hx => .inl ⟨rfl, (g1 x).mp hx⟩, ?_⟩, i1⟩
        rintro (⟨_, q⟩ | ⟨_, q⟩)
        · exact (g1 x).mpr q
        · exact (g2 x).mpr q
      · rcases hz with hz | hz
        · rw [hz]
          exact ⟨n1, f1, fun x => ⟨fun hx => .inl ⟨rfl, (g1 x).mp hx⟩, fun q => q.elim (fun q => (g1 x).mpr q.2) fun q => absurd q.1 e⟩, i1⟩
        · rw [hz]
          exact ⟨n2, f2, fun x => ⟨fun hx => .inr ⟨rfl, (g2 x).mp hx⟩, fun q => q.elim (fun q => absurd q.1.symm e) fun q => (g2 x).mpr q.2⟩, i2⟩
  have sp : ∀ x, ((∃ t ∈ ([] : List D), Nm t x) ∨ ∃ z ∈ [u, w], ((z = u ∧ ∃ t ∈ ts, Nm t x) ∨ (z = w ∧ ∃ t ∈ us, Nm t x))) ↔ ∃ t ∈ ts ++ us, Nm t x := fun x => by
    constructor
    · rintro (⟨t, ht, _⟩ | ⟨z, _, ⟨_, t, ht, q⟩ | ⟨_, t, ht, q⟩⟩)
      · cases ht
      · exact ⟨t, List.mem_append_left _ ht, q⟩
      · exact ⟨t, List.mem_append_right _ ht, q⟩
    · rintro ⟨t, ht, q⟩
      rcases List.mem_append.mp ht with ht | ht
      · exact .inr ⟨u, by simp, .inl ⟨rfl, t, ht, q⟩⟩
      · exact .inr ⟨w, by simp, .inr ⟨rfl, t, ht, q⟩⟩
  obtain ⟨m, ks, _⟩ := st 0
  refine ⟨m, ks.imp sp, fun i => ?_⟩
  obtain ⟨m', k', e⟩ := st i
  rw [Nat.add_right_comm]
  refine (show tb_view_names (u_view_names (max j k + i)) _ = _ from e).trans ?_
  rw [k'.same ks]
theorem VN.all : VN 1 (.tup [.str "all"]) [] where
  dp := fun i => by rw [Nat.add_comm]; show tb_view_depth _ _ = _; unfold tb_view_depth; rw [iv_all, Res.bind_ok, compR_fn (g := fun _ => (0 : Int)) (by simp) (fun a ha => by cases ha)]; rfl
  tm := fun i => by rw [Nat.add_comm]; exact lt_all
  tk := fun t h => by cases h
  ln := by simp
  nm := by
    refine ⟨[], KS.nil.imp fun x => by simp, fun i => ?_⟩
    rw [Nat.add_comm]
    show tb_view_names _ _ = _
    unfold tb_view_names
    rw [ot_all, iv_all]
    exact KS.nil.sort
/-! the views of the law -/
def MostIs (ps : List (Int × List Int)) (q : Nat) : Prop := (∀ w, (ps.map (·.1)).count w ≤ q) ∧ ((ps.map (·.1) = [] ∧ q = 0) ∨ ∃ w, w ∈ ps.map (·.1) ∧ (ps.map (·.1)).count w = q)
theorem pairPD : pairP = fPr (fCons D.int (fOne ans)) := rfl
def GoodV (W W' c j : Nat) (m : List (Str × Int)) (v : D) (mono : Bool) : Prop := j ≤ 8 → (∀ i, u_width_of (j + i) v (W : Int) = .ok (.int W')) ∧ ∃ ts, VN j v ts
section
variable {W W' c j : Nat} {m : List (Str × Int)} {v : D} {b : Bool}
theorem ln_small {j : Nat} {v : D} {ts : List D} (h : VN j v ts) (hj : j ≤ 8) : ts.length ≤ 100000 := by
  have := h.ln
  have p3 : 2 ^ j ≤ 2 ^ 8 := Nat.pow_le_pow_right (by decide) hj
  omega
theorem mem1 {t u : D} {P : D → Prop} (h : P t) (hu : u ∈ [t]) : P u := by rw [List.mem_singleton] at hu; subst hu; exact h
theorem gd_all : GoodV W W 1 1 m (.tup [.str "all"]) true := fun _ => ⟨fun i => by
    rw [Nat.add_comm]
    show tb_width_of _ _ _ = _
    unfold tb_width_of
    simp [dIx_p0], [], VN.all⟩
theorem gd_keep {t : D} (ht : TmF W' m t) (h : GoodV W W' c j m v b) (hc : c ≤ 100) : GoodV W W' c (j + 1) m (.tup [.str "keep", t, v]) b := fun hj => by
  obtain ⟨hw, ts, hv⟩ := h (by omega)
  refine ⟨fun i => ?_, _, hv.one ot_keep iv_keep (fun x hx => mem1 (P := TA) ⟨_, ht⟩ hx) (by simp) fun i => lt_keep (hv.tm i) (ln_small hv (by omega))⟩
  rw [Nat.add_right_comm]
  refine (width_step (G := u_width_of (j + i)) (by simp [dIx_p0]) iv_keep (by simp) (fun u hu => mem1 (P := fun u => u_width_of (j + i) u (W : Int) = .ok (.int W')) (hw i) hu) ot_keep (fun t ht' => mem1 (P := fun t => TOk W' abc 3 t) ht ht')).trans ?_
  simp [dIx_p0]
theorem gd_unlike (h : GoodV W W' c j m v b) (hc : c ≤ 100) : GoodV W W' c (j + 1) m (.tup [.str "unlike", v]) b := fun hj => by
  obtain ⟨hw, ts, hv⟩ := h (by omega)
  refine ⟨fun i => ?_, _, hv.one ot_unlike iv_unlike (fun x hx => by cases hx) (by simp) fun i => lt_unlike (hv.tm i) (ln_small hv (by omega))⟩
  rw [Nat.add_right_comm]
  refine (width_step (kn := abc) (G := u_width_of (j + i)) (by simp [dIx_p0]) iv_unlike (by simp) (fun u hu => mem1 (P := fun u => u_width_of (j + i) u (W : Int) = .ok (.int W')) (hw i) hu) ot_unlike (fun t ht' => by cases ht')).trans ?_
  simp [dIx_p0]
theorem gd_cap {t : D} {n : Int} (ht : TmF W' m t) (h : GoodV W W' c j m v b) (hc : c ≤ 100) : GoodV W W' (c * 2) (j + 1) m (.tup [.str "cap", t, .int n, v]) false := fun hj => by
  obtain ⟨hw, ts, hv⟩ := h (by omega)
  refine ⟨fun i => ?_, _, hv.one ot_cap iv_cap (fun x hx => mem1 (P := TA) ⟨_, ht⟩ hx) (by simp) fun i => lt_cap (hv.tm i) (ln_small hv (by omega))⟩
  rw [Nat.add_right_comm]
  refine (width_step (G := u_width_of (j + i)) (by simp [dIx_p0]) iv_cap (by simp) (fun u hu => mem1 (P := fun u => u_width_of (j + i) u (W : Int) = .ok (.int W')) (hw i) hu) ot_cap (fun t ht' => mem1 (P := fun t => TOk W' abc 3 t) ht ht')).trans ?_
  simp [dIx_p0]
theorem gd_both2 {c' j2 : Nat} {u : D} {b' : Bool} (h : GoodV W W' c j m v b) (k : GoodV W W' c' j2 m u b') (hc : c ≤ 100) (hc' : c' ≤ 100) : GoodV W W' (c + c') (max j j2 + 1) m (.tup [.str "both", v, u]) (b && b') := fun hj => by
  obtain ⟨hw, ts, hv⟩ := h (by omega)
  obtain ⟨kw, us, kv⟩ := k (by omega)
  refine ⟨fun i => ?_, _, hv.two kv (by omega) (by omega)⟩
  rw [Nat.add_right_comm]
  refine (width_step (kn := abc) (G := u_width_of (max j j2 + i)) (by simp [dIx_p0]) iv_both (by simp) (fun x hx => by
    simp only [List.mem_cons, List.not_mem_nil, or_false] at hx
    rcases hx with hx | hx
    · rw [hx, show max j j2 + i = j + (max j j2 - j + i) by omega]; exact hw _
    · rw [hx, show max j j2 + i = j2 + (max j j2 - j2 + i) by omega]; exact kw _) ot_both (fun t ht' => by cases ht')).trans ?_
  simp [dIx_p0]
theorem flat_len4 {Ls : List (List D)} (h : ∀ L ∈ Ls, L.length ≤ 4) (hl : Ls.length ≤ 3) : Ls.flatten.length ≤ 12 := by
  have : ∀ Ls : List (List D), (∀ L ∈ Ls, L.length ≤ 4) → Ls.flatten.length ≤ Ls.length * 4 := by
    intro Ls
    induction Ls with
    | nil => intro _; simp
    | cons L Ls ih =>
      intro h
      have := h L List.mem_cons_self
      have := ih fun x hx => h x (List.mem_cons_of_mem _ hx)
      rw [List.flatten_cons, List.length_append, List.length_cons]
      omega
  have := this Ls h
  omega
theorem gd_rows {Ls : List (List D)} {W2 : Nat} (ht : ∀ ts ∈ Ls, ts.length = W2 ∧ ∀ t ∈ ts, TmF W' m t) (h2' : W2 ≤ 4) (h : GoodV W W' c j m v b) (hc : c * Ls.length ≤ 100) (hc' : c ≤ 100) (hn : 1 ≤ Ls.length ∧ Ls.length ≤ 3) : GoodV W W2 (c * Ls.length) (j + 1) m (.tup [.str "rows", .tup (Ls.map D.tup), v]) b := fun hj => by
  obtain ⟨hw, ts, hv⟩ := h (by omega)
  have l4 : ∀ L ∈ Ls, L.length ≤ 4 := fun L hL => by have := (ht L hL).1; omega
  have tm : ∀ t ∈ Ls.flatten, TOk W' abc 3 t := fun t ht' => by
    obtain ⟨L, hL, h'⟩ := List.mem_flatten.mp ht'
    exact (ht L hL).2 t h'
  refine ⟨fun i => ?_, _, hv.one (ot_rows l4 (by omega)) iv_rows (fun x hx => ⟨_, tm x hx⟩) (flat_len4 l4 hn.2) fun i => lt_rows (hv.tm i) (ln_small hv (by omega)) l4 (by omega)⟩
  rw [Nat.add_right_comm]
  refine (width_step (kn := abc) (G := u_width_of (j + i)) (by simp [dIx_p0]) iv_rows (by simp) (fun u hu => mem1 (P := fun u => u_width_of (j + i) u (W : Int) = .ok (.int W')) (hw i) hu) (ot_rows l4 (by omega)) tm).trans ?_
  rw [dIx_p0]
  simp [wm_rows (v := v) (W0 := W') (Ls := Ls) (d := W2) (by omega) fun L hL => (ht L hL).1]
theorem wm_match0 {t v : D} {W0 : Nat} (hw : W0 ≤ 4) : t_width_made (.tup [.str "match", .tup [], t, v]) W0 = .ok (.int (W0 : Int)) := by
  have cm : DL.compR ([] : List D) (fun pair6 => (((dIx pair6 (D.int (1 : Int))).bind fun a7 => (dLen a7)).bind D.asI)) = .ok [] := by
    unfold DL.compR
    rw [if_pos (fits_of (by simp))]
    rfl
  have al' : t_all_alike (fLst D.int []) = .ok true := alike_ints' (l := []) (a := 0) (by simp) (fun x hx => by cases hx)
  have c4 : ¬ (4 : Int) < (W0 : Int) := by omega
  unfold t_width_made
  have sn : decide (Str.ofString "match" = Str.ofString "rows") = false := by decide +kernel
  simp only [dIx_p0, dIx_p1, Res.bind_ok, dEq_ss, sn, if_true, asItems_tup, cm, al', Bool.not_true, Bool.false_eq_true, if_false, c4]
  simp [c4]
theorem gd_match {t : D} {ps : List (Int × List Int)} {d q : Nat} (ht : TmF W' m t) (hp : ∀ p ∈ ps, p.2.length = d ∧ ∀ x ∈ p.2, InB x) (hl : ps.length ≤ 8) (hd : d ≤ 4) (hW : W' ≤ 4) (hWd : ps ≠ [] → W' + d ≤ 4) (hq : MostIs ps q) (h : GoodV W W' c j m v b) (hc' : c ≤ 100) (hc : c * q ≤ 100) (h0 : ps ≠ [] ∨ q = 0) :
    GoodV W (if ps = [] then W' else W' + d) (c * q) (j + 1) m (.tup [.str "match", .tup (ps.map (fPr (fCons D.int (fOne ans)))), t, v]) b := fun hj => by
  obtain ⟨hw, ts, hv⟩ := h (by omega)
  refine ⟨fun i => ?_, _, hv.one ot_match iv_match (fun x hx => mem1 (P := TA) ⟨_, ht⟩ hx) (by simp) fun i => lt_match (hv.tm i) (ln_small hv (by omega))⟩
  rw [Nat.add_right_comm]
  refine (width_step (G := u_width_of (j + i)) (by simp [dIx_p0]) iv_match (by simp) (fun u hu => mem1 (P := fun u => u_width_of (j + i) u (W : Int) = .ok (.int W')) (hw i) hu) ot_match (fun t ht' => mem1 (P := fun t => TOk W' abc 3 t) ht ht')).trans ?_
  rw [dIx_p0]
  by_cases z : ps = []
  · subst z
    have := wm_match0 (t := t) (v := v) hW
    simp only [List.map_nil, if_true]
    simp [this]
  · have l1 : 1 ≤ ps.length := List.length_pos_iff.mpr z
    have := wm_match (t := t) (v := v) (W0 := W') (ps := ps) (d := d) (by omega) (fun p hp' => (hp p hp').1) (hWd z)
    rw [pairPD] at this
    rw [if_neg z]
    simp [this]
theorem GoodV.wider {c' : Nat} (h : GoodV W W' c j m v b) (hc : c = c') : GoodV W W' c' j m v b := hc ▸ h
end
theorem leaf_ok {cell k : Int} {W : Nat} (hc : Sm 1048700 cell) (h0 : 0 ≤ k) (h1 : k ≤ 100000) (hW : 0 < W) (j : Nat) : Ok (t_l_leaf cell k W) (TOk W abc (j + 1)) := by
  unfold t_l_leaf
  refine (mix_ok hc h0 (by omega)).bind fun n hn => Ok.ite (fun _ => ?_) fun _ => Ok.ite (fun _ => ?_) fun _ => ?_
  · obtain ⟨v, e, hv⟩ := number_ok (many := 7) hc (show 0 ≤ k + 100 by omega) (by omega) (by decide) (by decide)
    rw [e]
    exact ⟨_, rfl, .num hv⟩
  · obtain ⟨x, hx, e⟩ := getL_mem (l := [("a" : Str), ("b" : Str), ("c" : Str)]) (i := n / 8 % 3) (by simp; omega) (by simp; omega)
    rw [e]
    exact ⟨_, rfl, .name hx⟩
  · rw [modR_pos (by omega)]
    have a := Int.emod_nonneg (n / 8) (b := (W : Int)) (by omega)
    have b := Int.emod_lt_of_pos (n / 8) (b := (W : Int)) (by omega)
    generalize n / 8 % (W : Int) = z at *
    obtain ⟨q, rfl⟩ := Int.eq_ofNat_of_zero_le a
    exact ⟨_, rfl, .field (by omega)⟩
theorem term_ok {cell k : Int} {W : Nat} {m : List (Str × Int)} (hm : NmOk m) (hc : Sm 1048700 cell) (h0 : 0 ≤ k) (h1 : k ≤ 10000) (hW : 0 < W) (j : Nat) : Ok (t_l_term cell k W) (TmT W m) := by
  refine Ok.imp (P := TOk W abc 3) ?_ fun t h => ⟨h, hm⟩
  obtain ⟨n, en, n0, n1⟩ := mix_ok (k := k) hc h0 (by omega)
  obtain ⟨t, et, ht⟩ := leaf_ok hc (k := k + 20) (by omega) (by omega) hW 1
  obtain ⟨u, eu, hu⟩ := leaf_ok hc (k := k + 40) (by omega) (by omega) hW 1
  obtain ⟨v, ev, hv⟩ := leaf_ok hc (k := k + 60) (by omega) (by omega) hW 1
  unfold t_l_term
  rw [en, et, eu, ev]
  simp only [Res.bind_ok]
  refine Ok.ite (fun _ => ⟨_, rfl, ht.up (by decide)⟩) fun _ => Ok.ite (fun _ => ⟨_, rfl, .un ht⟩) fun _ => Ok.ite (fun _ => ⟨_, rfl, .pick ht hu hv⟩) fun _ => ?_
  obtain ⟨op, mem, e⟩ := getL_mem (l := (["add", "sub", "mul", "quo", "less", "same", "both", "any"] : List Str)) (i := n / 8 % 8) (by simp; omega) (by simp; omega)
  rw [e]
  refine ⟨_, rfl, .bin ?_ ht hu⟩
  unfold binOps
  simp only [List.mem_cons, List.not_mem_nil, or_false] at mem ⊢
  rcases mem with h | h | h | h | h | h | h | h <;> simp [h]
/-! ### views grown -/
abbrev VE := D × Int × Int × Bool × Int
def ItemV (W : Nat) (m : List (Str × Int)) (x : VE) : Prop := ∃ W' c j : Nat, x.2.1 = (W' : Int) ∧ x.2.2.1 = (c : Int) ∧ x.2.2.2.2 = (j : Int) ∧ 0 < W' ∧ W' ≤ 4 ∧ c ≤ 64 ∧ j ≤ 6 ∧ GoodV W W' c j m x.1 x.2.2.2.1
def SoonV (W : Nat) (m : List (Str × Int)) (x : VE) : Prop := x.2.2.1 ≤ 64 → x.2.2.2.2 ≤ 6 → ItemV W m x
theorem most_ok {ps : List (Int × List Int)} (h : ps.length ≤ 1000) : ∃ q : Nat, t_l_most ps = .ok (q : Int) ∧ MostIs ps q ∧ q ≤ ps.length := by
  have e : t_l_most ps = .ok (maxDef 0 ((ps.map (·.1)).map fun x => (((ps.map (·.1)).count x : Nat) : Int))) := by
    unfold t_l_most
    rw [compR_fn (g := fun (p : Int × List Int) => p.1) (by omega) fun _ _ => rfl, Res.bind_ok, compR_fn (g := fun x => (((ps.map (·.1)).count x : Nat) : Int)) (by rw [List.length_map]; omega) fun _ _ => rfl]
    rfl
  generalize hn : (ps.map (·.1)) = ns at e
  have nl : ns.length = ps.length := by rw [← hn, List.length_map]
  by_cases h0 : ns = []
  · subst h0
    exact ⟨0, e, ⟨fun w => by rw [hn]; simp, .inl ⟨hn, rfl⟩⟩, Nat.zero_le _⟩
  · have ne : (ns.map fun x => ((ns.count x : Nat) : Int)) ≠ [] := by simpa using h0
    obtain ⟨x, hx, ex⟩ := List.mem_map.mp (maxDef_mem 0 ne)
    refine ⟨ns.count x, by rw [e, ← ex], ⟨fun w => ?_, .inr ⟨x, by rw [hn]; exact hx, by rw [hn]⟩⟩, by rw [← nl]; exact List.count_le_length⟩
    rw [hn]
    by_cases hw : w ∈ ns
    · have := maxDef_ge 0 (List.mem_map.mpr ⟨w, hw, rfl⟩ : ((ns.count w : Nat) : Int) ∈ ns.map fun x => ((ns.count x : Nat) : Int))
      rw [← ex] at this
      omega
    · rw [List.count_eq_zero.mpr hw]; omega
theorem pairs_ok {cell : Int} {W : Nat} (hc : Sm 1048600 cell) (h0 : 0 < W) (h4 : W ≤ 4) : Ok (t_l_made_pairs cell W) fun ps => ps.length ≤ 8 ∧ ∃ c, c ≤ 4 ∧ (ps ≠ [] → W + c ≤ 4) ∧ ∀ p ∈ ps, p.2.length = c ∧ ∀ x ∈ p.2, InB x := by
  unfold t_l_made_pairs
  refine (mix_ok (hc.mono (by decide)) (by decide) (by decide)).bind fun n hn => ?_
  rw [Res.bind_ok]
  refine Ok.ite (fun _ => ⟨_, rfl, by simp, 0, by simp, by simp, by simp⟩) fun h => ?_
  have hW : W < 4 := by omega
  have c0 := Int.emod_nonneg (n / 9) (show (4 : Int) - W ≠ 0 by omega)
  have c1 := Int.emod_lt_of_pos (n / 9) (show (0 : Int) < 4 - W by omega)
  rw [rng1_ok (by omega) (by omega), Res.bind_ok]
  refine Ok.bind (Ok.forA (P := fun _ (p : Int × List Int) => p.2.length = (1 + n / 9 % (4 - W)).toNat ∧ ∀ x ∈ p.2, InB x) (s := []) (by rw [rangeI_len]; simp; omega) fun j hj s hs => ?_) ?_
  · have hj := rangeI_mem.mp hj
    have q := sq_le hj.1 (show j ≤ 9 by omega)
    rw [mulR_s (by omega) (by omega) (by omega) (by omega), Res.bind_ok, mulR_s (by omega) (by omega) (by omega) (by omega), modR_pos (by omega)]
    simp only [Res.bind_ok, Res.assoc]
    rw [rng1_ok (by omega) (by omega)]
    simp only [Res.bind_ok]
    have ho : Sm 1048700 (cell + j * j * 7919) := (hc.add (show Sm 1048600 (j * j * 7919) from (sm64 (by omega) (by omega)).mono (by decide))).mono (by decide)
    refine Ok.bind (P := fun r => r.length = (1 + n / 9 % (4 - W)).toNat ∧ ∀ x ∈ r, InB x) ?_ fun r hr => ?_
    · refine Ok.compR (P := fun _ x => InB x) (by rw [rangeI_len]; omega) (fun i hi => ?_) fun r hr => ?_
      · have hi := rangeI_mem.mp hi
        exact number_ok ho (by omega) (by omega) (by decide) (by decide)
      · refine ⟨by rw [hr.length, rangeI_len]; omega, fun x hx => ?_⟩
        obtain ⟨_, _, h⟩ := a2_mem hr x hx
        exact h
    · refine (mix_ok ho (by decide) (by decide)).bind fun u hu => ⟨_, by rw [appR_ok hs]; rfl, _, hr, rfl⟩
  · rintro _ ⟨ps, hp, rfl⟩
    refine ⟨_, rfl, by simp [hp.length, rangeI_len]; omega, (1 + n / 9 % (4 - W)).toNat, by omega, fun _ => by omega, fun p hh => ?_⟩
    obtain ⟨_, _, h⟩ := a2_mem hp p (by simpa using hh)
    exact h
theorem lists_ok {cell n : Int} {W F : Nat} {m : List (Str × Int)} (hm : NmOk m) (hc : Sm 1048600 cell) (hW : 0 < W) (hF : F ≤ 4) : Ok ((rng1 ((1 : Int) + ((n / (7 : Int)) % (3 : Int)))).bind fun l28 => DL.forR l28 ([] : List (List D)) (fun j11 s10 =>
  (((rng1 (F : Int)).bind fun l25 => DL.compR l25 (fun i13 => (((mulR j11 j11).bind fun b15 => .ok (cell + b15)).bind fun a22 => ((mulR (7 : Int) i13).bind fun b17 => .ok ((370 : Int) + b17)).bind fun a23 => t_l_term a22 a23 (W : Int)))).bind fun a27 => appR s10 a27).bind fun lists12 =>
  Res.ok lists12)) fun Ls => (1 ≤ Ls.length ∧ Ls.length ≤ 3) ∧ ∀ ts ∈ Ls, ts.length = F ∧ ∀ t ∈ ts, TmF W m t := by
  rw [rng1_ok (by omega) (by omega), Res.bind_ok]
  refine (Ok.forA (P := fun _ ts => ts.length = F ∧ ∀ t ∈ ts, TmF W m t) (s := []) (by rw [rangeI_len]; simp; omega) fun j hj s hs => ?_).imp ?_
  · have hj := rangeI_mem.mp hj
    rw [rng1_ok (by omega) (by omega)]
    simp only [Res.bind_ok, Res.assoc]
    refine Ok.bind (P := fun ts => ts.length = F ∧ ∀ t ∈ ts, TmF W m t) ?_ fun ts hts => ⟨_, by rw [appR_ok hs]; rfl, ts, hts, rfl⟩
    refine Ok.compR (P := fun _ t => TmF W m t) (by rw [rangeI_len]; omega) (fun i hi => ?_) fun ts hts => ?_
    · have hi := rangeI_mem.mp hi
      have q := sq_le hj.1 (show j ≤ 4 by omega)
      rw [mulR_s (by omega) (by omega) (by omega) (by omega), mulR_s (by omega) (by omega) (by omega) (by omega)]
      simp only [Res.bind_ok]
      exact (term_ok hm ((hc.add (show Sm 1048600 (j * j) from (sm64 (by omega) (by omega)).mono (by decide))).mono (by decide)) (by omega) (by omega) hW 10).imp fun t ht => ht.ok
    · refine ⟨by rw [hts.length, rangeI_len]; omega, fun t ht => ?_⟩
      obtain ⟨_, _, h⟩ := a2_mem hts t ht
      exact h
  · rintro _ ⟨Ls, hL, rfl⟩
    refine ⟨by simp [hL.length, rangeI_len]; omega, fun ts hts => ?_⟩
    obtain ⟨_, _, h⟩ := a2_mem hL ts (by simpa using hts)
    exact h
theorem grown_ok {cell : Int} {W : Nat} {m : List (Str × Int)} {past p : List VE} {z1 : VE} (hm : NmOk m) (hc : Sm 1048600 cell) (hp : past = p ++ [z1]) (hl : past.length ≤ 1000) (h : ∀ x ∈ past, ItemV W m x) : Ok (t_l_grown cell past) fun w => w.2 = past ∧ SoonV W m w.1 := by
  have hz := h z1 (by rw [hp]; simp)
  obtain ⟨v, wd, st, gr, dp⟩ := z1
  obtain ⟨W', c, j, e1, e2, e3, w0, w4, c64, j6, g⟩ := id hz
  dsimp only at e1 e2 e3 g
  subst e1 e2 e3
  have last : getL past (-(1 : Int)) = .ok (v, (W' : Int), (c : Int), gr, (j : Int)) := by rw [hp]; exact getL_last _ _
  have hc7 := hc.mono (show 1048600 ≤ 1048700 by decide)
  unfold t_l_grown
  rw [last, Res.bind_ok]
  obtain ⟨n, en, n0, n1⟩ := mix_ok (k := 310) hc7 (by decide) (by decide)
  rw [en, Res.bind_ok]
  obtain ⟨t, et, ht⟩ := term_ok hm hc7 (k := 360) (W := W') (by decide) (by decide) w0 10
  have ht := ht.ok
  dsimp only
  refine Ok.ite (fun _ => ?_) fun _ => Ok.ite (fun _ => ?_) fun _ => Ok.ite (fun _ => ?_) fun _ => Ok.ite (fun _ => ?_) fun _ => Ok.ite (fun _ => ?_) fun _ => ?_
  · rw [et]
    simp only [Res.bind_ok]
    exact ⟨_, rfl, rfl, fun _ hj => ⟨W', c, j + 1, rfl, rfl, rfl, w0, w4, c64, by dsimp only at hj; omega, gd_keep ht g (by omega)⟩⟩
  · rw [Res.bind_ok]
    obtain ⟨F, hF, f1, f4⟩ : ∃ F : Nat, 1 + n / 7 / 3 % 4 = (F : Int) ∧ 1 ≤ F ∧ F ≤ 4 := ⟨(1 + n / 7 / 3 % 4).toNat, by omega, by omega, by omega⟩
    rw [hF]
    obtain ⟨Ls, eL, l3, hL⟩ := lists_ok (n := n) hm hc w0 f4
    rw [eL, Res.bind_ok, mulR_s (by omega) (by omega) (by omega) (by omega)]
    simp only [Res.bind_ok]
    refine ⟨_, rfl, rfl, fun hs hj => ?_⟩
    have h64 : c * Ls.length ≤ 64 := by dsimp only at hs; rw [← Int.natCast_mul] at hs; omega
    refine ⟨F, c * Ls.length, j + 1, rfl, by simp, rfl, f1, f4, h64, by dsimp only at hj; omega, ?_⟩
    have := gd_rows hL (by omega) g (by omega) (by omega) l3
    show GoodV W F (c * Ls.length) (j + 1) m (D.tup [D.str "rows", D.tup (Ls.map (fTup fun d => d)), v]) gr
    have e : (fTup fun d : D => d) = D.tup := by funext l; unfold fTup; rw [List.map_id']
    rw [e]
    exact this
  · exact ⟨_, rfl, rfl, fun _ hj => ⟨W', c, j + 1, rfl, rfl, rfl, w0, w4, c64, by dsimp only at hj; omega, gd_unlike g (by omega)⟩⟩
  · obtain ⟨k, ek, _⟩ := Ok.getL (l := [(1 : Int), (2 : Int), (3 : Int), (1 : Int), ((1 : Int) + (((n / (7 : Int)) / (5 : Int)) % (40 : Int)))]) (i := n / 7 % 5) (P := fun _ => True) (by simp; omega) (by simp; omega) fun _ _ => trivial
    rw [ek, Res.bind_ok, et]
    simp only [Res.bind_ok]
    rw [mulR_s (by omega) (by omega) (by omega) (by omega)]
    simp only [Res.bind_ok]
    refine ⟨_, rfl, rfl, fun hs hj => ⟨W', c * 2, j + 1, rfl, by simp, rfl, w0, w4, by dsimp only at hs; omega, by dsimp only at hj; omega, (gd_cap ht g (by omega)).wider (by omega)⟩⟩
  · rw [compF_fn (d := fun (x : VE) => decide (x.2.1 = (W' : Int))) (g := fun x => x) (by omega) (fun _ _ => rfl) fun _ _ _ => rfl, Res.bind_ok, List.map_id']
    generalize hfit : (past.filter fun (x : VE) => decide (x.2.1 = (W' : Int))) = fit
    have zf : (v, (W' : Int), (c : Int), gr, (j : Int)) ∈ fit := by rw [← hfit]; exact List.mem_filter.mpr ⟨by rw [hp]; simp, by simp⟩
    have f0 : 0 < fit.length := List.length_pos_of_mem zf
    have fp : (0 : Int) < ((fit.length : Nat) : Int) := by omega
    have a0 := Int.emod_nonneg (n / 7) (b := ((fit.length : Nat) : Int)) (by omega)
    have a1 := Int.emod_lt_of_pos (n / 7) fp
    rw [modR_pos fp, Res.bind_ok]
    obtain ⟨o, om, eo⟩ := getL_mem (l := fit) (i := n / 7 % ((fit.length : Nat) : Int)) (by omega) a1
    rw [eo, Res.bind_ok]
    rw [← hfit] at om
    obtain ⟨om, ow⟩ := List.mem_filter.mp om
    obtain ⟨u, wd, st, gr', dp⟩ := o
    obtain ⟨W2, c2, j2, e1, e2, e3, x0, x4, d64, k6, g2⟩ := h _ om
    dsimp only at e1 e2 e3 g2
    subst e1 e2 e3
    have eW : W2 = W' := by
      have := of_decide_eq_true ow
      dsimp only at this
      omega
    subst eW
    dsimp only
    refine ⟨_, rfl, rfl, fun hs hj => ⟨W2, c + c2, max j j2 + 1, rfl, by simp, by simp only []; omega, w0, w4, by dsimp only at hs; omega, by dsimp only at hj; omega, ?_⟩⟩
    have := gd_both2 g g2 (by omega) (by omega)
    have eb : decide (gr = true ∧ gr' = true) = (gr && gr') := by cases gr <;> cases gr' <;> rfl
    show GoodV W W2 (c + c2) (max j j2 + 1) m _ (decide (gr = true ∧ gr' = true))
    rw [eb]
    exact this
  · obtain ⟨ps, ep, p8, d, d4, dW, hps⟩ := pairs_ok hc w0 w4
    obtain ⟨q, eq, hq, hq8⟩ := most_ok (ps := ps) (by omega)
    rw [ep, Res.bind_ok]
    have wide : (if (0 : Int) < ((ps.length : Nat) : Int) then ((((getL ps (0 : Int)).bind fun a53 => .ok a53.2).bind fun a54 => .ok ((a54.length : Nat) : Int)).bind fun b56 => .ok ((W' : Int) + b56)).bind fun wide57 => Res.ok wide57 else Res.ok (W' : Int) : Res Int) = .ok (((if ps = [] then W' else W' + d : Nat)) : Int) := by
      cases ps with
      | nil => simp
      | cons p ps =>
        have := (hps p List.mem_cons_self).1
        rw [if_pos (by rw [List.length_cons]; omega), getL_zero]
        simp only [Res.bind_ok]
        rw [this, if_neg (by simp)]
        simp
    rw [wide, Res.bind_ok]
    simp only [Res.bind_ok]
    rw [et]
    simp only [Res.bind_ok]
    rw [eq, Res.bind_ok, mulR_s (by omega) (by omega) (by omega) (by omega)]
    simp only [Res.bind_ok]
    refine ⟨_, rfl, rfl, fun hs hj => ⟨if ps = [] then W' else W' + d, c * q, j + 1, rfl, by simp, rfl, by split <;> omega, ?_, ?_, by dsimp only at hj; omega, ?_⟩⟩
    · split
      · omega
      · rename_i hn; have := dW hn; omega
    · dsimp only at hs; rw [← Int.natCast_mul] at hs; omega
    · refine gd_match ht hps p8 d4 w4 dW hq g (by omega) (by dsimp only at hs; rw [← Int.natCast_mul] at hs; omega) ?_
      by_cases z : ps = []
      · subst z; exact .inr (by simpa using hq8)
      · exact .inl z
theorem views_ok {cells : List Int} {W : Nat} {m : List (Str × Int)} (hm : NmOk m) (hc : ∀ z ∈ cells, Sm 1048600 z) (hl : cells.length ≤ 100) (w0 : 0 < W) (w4 : W ≤ 4) : Ok (t_l_views cells W) fun L => ∀ x ∈ L, ItemV W m x := by
  unfold t_l_views
  rw [Res.bind_ok]
  refine Ok.bind (P := fun L => ∀ x ∈ L, ItemV W m x) ?_ fun L h => ⟨L, rfl, h⟩
  have first : ItemV W m ((fPr (fOne D.str)) ("all" : Str), (W : Int), (1 : Int), true, (1 : Int)) := ⟨W, 1, 1, rfl, rfl, rfl, w0, w4, by decide, by decide, gd_all⟩
  refine (Ok.forR (fun d (L : List VE) => (∀ x ∈ L, ItemV W m x) ∧ L.length ≤ d.length + 1 ∧ ∃ p z, L = p ++ [z]) ⟨fun x hx => by rw [List.mem_singleton.mp hx]; exact first, by simp, [], _, rfl⟩ fun d a r L e ⟨h1, h2, p, z, h3⟩ => ?_).imp fun L h => h.1
  have dl := congrArg List.length e
  rw [List.length_append, List.length_cons] at dl
  have hca := hc a (by rw [e]; simp)
  obtain ⟨w, ew, w2, sw⟩ := grown_ok hm hca h3 (by omega) h1
  rw [ew, Res.bind_ok, w2]
  by_cases q : w.1.2.2.1 ≤ 64 ∧ w.1.2.2.2.2 ≤ 6
  · rw [if_pos q, appR_ok (by omega), Res.bind_ok, Res.bind_ok]
    refine ⟨_, rfl, fun x hx => ?_, by simp; omega, L, w.1, rfl⟩
    rcases List.mem_append.mp hx with hx | hx
    · exact h1 x hx
    · rw [List.mem_singleton.mp hx]; exact sw q.1 q.2
  · rw [if_neg q, Res.bind_ok]
    exact ⟨L, rfl, h1, by simp; omega, p, z, h3⟩
theorem repT_n {α : Type} (a : α) {w : Nat} (h : 1 ≤ w ∧ w ≤ 1000) : repT [a] (w : Int) = .ok (List.replicate w a) := by
  unfold repT
  by_cases q : w = 1
  · subst q
    rfl
  · rw [if_neg (by omega), if_pos ⟨by omega, by omega, by simp, by simp⟩, Int.toNat_natCast]
    congr 1
    have : ∀ n : Nat, (List.replicate n [a]).flatten = List.replicate n a := by
      intro n
      induction n with
      | zero => rfl
      | succ n ih => rw [List.replicate_succ, List.flatten_cons, ih, List.replicate_succ]; rfl
    exact this w
/-! ### k21: views at fault -/
theorem gth_field {G : D → Str → Res (List D)} (f : Int) : tb_gathered G (.tup [.str "field", .int f]) "field" = .ok [.int f] := by
  unfold tb_gathered t_is_leaf
  simp [dIx_p0, dIx_p1]
theorem gth_num {G : D → Str → Res (List D)} (f : Int) : tb_gathered G (.tup [.str "num", .int f]) "field" = .ok [] := by
  unfold tb_gathered t_is_leaf
  simp [dIx_p0, dIx_p1]
theorem gth_two {G : D → Str → Res (List D)} {o : Str} {a b : D} {xs ys : List D} (hn : o ≠ "num" ∧ o ≠ "field" ∧ o ≠ "name") (ha : G a "field" = .ok xs) (hb : G b "field" = .ok ys) (hl : xs.length + ys.length ≤ 1000) : tb_gathered G (.tup [.str o, a, b]) "field" = .ok (xs ++ ys) := by
  have cu : (dCut (some 1) none (.tup [.str o, a, b])).bind D.asItems = .ok [a, b] := by
    show (Res.ok (D.tup (cutL [D.str o, a, b] (some 1) none))).bind D.asItems = _
    rw [show cutL [D.str o, a, b] (some 1) none = [a, b] by unfold cutL; simp [HT.sIx]]
    rfl
  unfold tb_gathered
  rw [leaf_op hn, cu]
  simp [DL.forR, ha, hb, catR_ok' (a := ([] : List D)) (b := xs) (by simp; omega), catR_ok' (a := xs) (b := ys) (by omega)]
theorem gth_one {G : D → Str → Res (List D)} {o : Str} {a : D} {xs : List D} (hn : o ≠ "num" ∧ o ≠ "field" ∧ o ≠ "name") (ha : G a "field" = .ok xs) (hl : xs.length ≤ 1000) : tb_gathered G (.tup [.str o, a]) "field" = .ok xs := by
  have cu : (dCut (some 1) none (.tup [.str o, a])).bind D.asItems = .ok [a] := by
    show (Res.ok (D.tup (cutL [D.str o, a] (some 1) none))).bind D.asItems = _
    rw [show cutL [D.str o, a] (some 1) none = [a] by unfold cutL; simp [HT.sIx]]
    rfl
  unfold tb_gathered
  rw [leaf_op hn, cu]
  simp [DL.forR, ha, catR_ok' (a := ([] : List D)) (b := xs) (by simp; omega)]
def FarT (f : Int) (t : D) : Prop := t_fields_in t = .ok [.int f]
theorem far_of {f : Int} {t : D} (h : t_gathered t "field" = .ok [.int f]) : FarT f t := by
  unfold FarT t_fields_in
  rw [h, Res.bind_ok, Res.bind_ok, fLst_id]
  have := dSortI (l := [f]) (by simp)
  rw [show nubL [f] = [f] from nubL_id (by simp), show sortI [f] = [f] by simp [sortI]] at this
  rw [show ([D.int f] : List D) = [f].map D.int from rfl, this]
  rfl
theorem far_field (f : Int) : FarT f (.tup [.str "field", .int f]) := far_of (gth_field (G := u_gathered 11) f)
theorem far_not (f : Int) : FarT f (.tup [.str "not", .tup [.str "field", .int f]]) := far_of (gth_one (o := "not") (G := u_gathered 11) (by decide +kernel) (gth_field (G := u_gathered 10) f) (by simp))
theorem far_both (f : Int) : FarT f (.tup [.str "both", .tup [.str "num", .int 1], .tup [.str "field", .int f]]) := far_of (gth_two (o := "both") (G := u_gathered 11) (by decide +kernel) (gth_num (G := u_gathered 10) 1) (gth_field (G := u_gathered 10) f) (by simp))
/-! width: none -/
def isN : D → Bool
  | .non => true
  | _ => false
theorem has_none (l : List D) (h : ∀ d ∈ l, d = .non ∨ ∃ i, d = .int i) : rawB (dInA false .non (.lst l)) = .ok (l.any isN) := by
  have p : D.pls l 50 = true := pls_all fun d hd => by rcases h d hd with rfl | ⟨i, rfl⟩ <;> simp [D.pl]
  show rawB (if (D.non).pl 50 = true ∧ D.pls l 50 = true then Res.ok (D.bl (D.has l .non != false)) else .bad) = _
  rw [if_pos ⟨by simp [D.pl], p⟩]
  have : D.has l .non = l.any isN := by
    clear p
    unfold D.has
    induction l with
    | nil => rfl
    | cons d l ih =>
      rw [List.any_cons, List.any_cons, ih fun x hx => h x (List.mem_cons_of_mem _ hx)]
      rcases h d List.mem_cons_self with rfl | ⟨i, rfl⟩
      · simp [D.beq, D.py, PyData.eqv, isN]
      · simp [D.beq, D.py, PyData.eqv, isN]
  rw [this]
  cases l.any isN <;> rfl
theorem width_nofit {G : D → Int → Res D} {v u : D} {w : Int} {W0 : Nat} {ts rs : List D} {t : D} {f : Int} (h0 : ((dIx v (.int 0)).bind fun a1 => (rawB (dEq a1 (D.str ("all" : Str))))) = .ok false) (hi : t_inner_views v = .ok [u]) (hG : G u w = .ok (.int W0)) (ho : t_own_terms v = .ok (ts ++ t :: rs))
    (ht : ∀ t ∈ ts, TOk W0 abc 3 t) (hf : FarT f t) (hW : (W0 : Int) ≤ f) : tb_width_of G v w = .ok .non := by
  have cm : DL.compR [u] (fun one3 => G one3 w) = .ok [.int W0] := by
    unfold DL.compR
    rw [if_pos (fits_of (by simp)), DL.mapR, hG]
    rfl
  have al : t_all_alike (.lst [.int W0]) = .ok true := alike_ints' (l := [(W0 : Int)]) (a := W0) (by simp) (fun x hx => by simpa using hx)
  have nn : rawB (dInA false .non (.lst [.int W0])) = .ok false := by rw [has_none _ (fun d hd => by rw [List.mem_singleton] at hd; exact .inr ⟨_, hd⟩)]; rfl
  have g0 : getL [D.int W0] (0 : Int) = .ok (.int W0) := getL_zero _ _
  have last : getL [D.int f] (-(1 : Int)) = .ok (.int f) := getL_last [] _
  unfold tb_width_of
  rw [h0, hi]
  simp only [Res.bind_ok, Bool.false_eq_true, if_false, cm, fLst_id, nn, al, Bool.not_true, ho, g0, D.asI]
  have loop : ∀ ts : List D, (∀ t ∈ ts, TOk W0 abc 3 t) → DL.forX (ts ++ t :: rs) () (fun term7 s6 =>
      (t_fields_in term7).bind fun fields8 =>
      (if (0 : Int) < ((fields8.length : Nat) : Int) then (((getL fields8 (-(1 : Int))).bind D.asI).bind fun a9 => Res.ok (decide ((W0 : Int) ≤ a9))) else .ok false).bind fun z => if z = true then
      Res.ok (.rt ((fun _ => D.non) ()))
    else
      Res.ok (.nx ())) = (.ok (.rt D.non) : Res (Oc Unit D)) := by
    intro ts
    induction ts with
    | nil =>
      intro _
      refine forX_rt ?_
      rw [show t_fields_in t = .ok [.int f] from hf, Res.bind_ok, if_pos (by simp), last]
      simp only [Res.bind_ok, D.asI]
      rw [decide_eq_true hW]
      rfl
    | cons x ts ih =>
      intro h
      obtain ⟨fs, e, p, l⟩ := (h x List.mem_cons_self).fields
      refine (forX_nx (s' := ()) ?_).trans (ih fun y hy => h y (List.mem_cons_of_mem _ hy))
      rw [e, Res.bind_ok]
      by_cases hz : (0 : Int) < (((fs.map D.int).length : Nat) : Int)
      · obtain ⟨d, hd, e2⟩ := getL_mem (l := fs.map D.int) (i := -1) (by omega) (by omega)
        obtain ⟨k, hk, rfl⟩ := List.mem_map.mp hd
        have : decide ((W0 : Int) ≤ k) = false := by have := (p k hk).2; simp; omega
        rw [if_pos hz, e2]
        simp only [Res.bind_ok, D.asI, this, Bool.false_eq_true, if_false]
      · rw [if_neg hz]
        simp only [Res.bind_ok, Bool.false_eq_true, if_false]
  rw [loop ts ht]
  rfl
theorem width_inner {G : D → Int → Res D} {v u : D} {w : Int} (h0 : ((dIx v (.int 0)).bind fun a1 => (rawB (dEq a1 (D.str ("all" : Str))))) = .ok false) (hi : t_inner_views v = .ok [u]) (hG : G u w = .ok .non) : tb_width_of G v w = .ok .non := by
  have cm : DL.compR [u] (fun one3 => G one3 w) = .ok [.non] := by
    unfold DL.compR
    rw [if_pos (fits_of (by simp)), DL.mapR, hG]
    rfl
  have nn : rawB (dInA false .non (.lst [.non])) = .ok true := by rw [has_none _ (fun d hd => by rw [List.mem_singleton] at hd; exact .inl hd)]; rfl
  unfold tb_width_of
  rw [h0, hi]
  simp only [Res.bind_ok, Bool.false_eq_true, if_false, cm, fLst_id, nn, if_true]
theorem unlike_two {a b : Int} (h : a ≠ b) : t_all_alike (.lst [.int a, .int b]) = .ok false := by
  unfold t_all_alike
  rw [show ([D.int a, D.int b] : List D) = [a, b].map D.int from rfl, dLenSetI (by simp), nubL_id (by simp [h])]
  rfl
theorem width_two {G : D → Int → Res D} {u v : D} {w a b : Int} (hu : G u w = .ok (.int a)) (hv : G v w = .ok (.int b)) (h : a ≠ b) : tb_width_of G (.tup [.str "both", u, v]) w = .ok .non := by
  have cm : DL.compR [u, v] (fun one3 => G one3 w) = .ok [.int a, .int b] := by
    unfold DL.compR
    rw [if_pos (fits_of (by simp)), DL.mapR, hu]
    simp only [Res.bind_ok]
    rw [DL.mapR, hv]
    rfl
  have nn : rawB (dInA false .non (.lst [.int a, .int b])) = .ok false := by rw [has_none _ (fun d hd => by simp only [List.mem_cons, List.not_mem_nil, or_false] at hd; rcases hd with h | h <;> exact .inr ⟨_, h⟩)]; rfl
  unfold tb_width_of
  rw [show ((dIx (.tup [.str "both", u, v]) (.int 0)).bind fun a1 => (rawB (dEq a1 (D.str ("all" : Str))))) = .ok false by simp [dIx_p0], iv_both]
  simp only [Res.bind_ok, Bool.false_eq_true, if_false, cm, fLst_id, nn, unlike_two h, Bool.not_false, if_true]
/-! one view told -/
theorem told_ok {v : D} {W : Nat} {r : D} {wide : Option Int} {j : Nat} {ts : List D} {deep : Int} (hj : j ≤ 12) (hw : ∀ i, u_width_of (j + i) v (W : Int) = .ok r) (hr : (wide = none ∧ r = .non) ∨ ∃ k, wide = some k ∧ r = .int k) (hv : VN j v ts) (hd : deep = (j : Int)) : t_l_told (v, (W : Int)) wide deep = .ok true := by
  subst hd
  have j12 : j + (12 - j) = 12 := by omega
  have tw : t_width_of v (W : Int) = .ok r := by have := hw (12 - j); rw [j12] at this; exact this
  have td : t_view_depth v = .ok (j : Int) := by have := hv.dp (12 - j); rw [j12] at this; exact this
  have tt : t_l_terms v = .ok ts := by have := hv.tm (12 - j); rw [j12] at this; exact this
  obtain ⟨m, ks, nm⟩ := hv.nm
  have tn : t_view_names v = .ok (sortS (m.map (·.1))) := by have := nm (12 - j); rw [j12] at this; exact this
  obtain ⟨m2, e2, k2⟩ := ks_terms ts [] _ hv.tk KS.nil
  have k2 : KS m2 fun x => ∃ t ∈ ts, Nm t x := k2.imp fun x => by simp
  have wi : ∀ i : Int, t_l_whole (.int i) = .ok true := fun i => rfl
  have pl : (fLst D.str (sortS (m2.map (·.1)))).pl 60 = true := by
    show D.pls _ 59 = true
    exact pls_all fun d hd => by
      obtain ⟨x, hx, rfl⟩ := List.mem_map.mp hd
      simp only [D.pl]
      exact abc_txt x (k2.inn x ((sortS_perm _).mem_iff.mp hx))
  have first : (((if wide = none then (rawB (dIsNot r ((fun _ => D.non) ()))) else .ok false).bind fun z => if z = true then .ok true else (if wide ≠ none then (((t_l_whole r).bind fun z => .ok (!z)).bind fun z => if z = true then .ok true else (rawB (dNe r ((fOpt D.int) wide)))) else .ok false)) : Res Bool) = .ok false := by
    rcases hr with ⟨rfl, rfl⟩ | ⟨k, rfl, rfl⟩
    · rw [if_pos rfl, if_neg (by simp)]
      rfl
    · rw [if_neg (by simp), if_pos (by simp), wi]
      simp only [Res.bind_ok, Bool.not_true, Bool.false_eq_true, if_false]
      show rawB (dNe (.int k) (.int k)) = _
      rw [dNe_self (by simp [D.pl])]
      rfl
  unfold t_l_told
  dsimp only
  rw [tw, Res.bind_ok, first, Res.bind_ok, if_neg (by decide), td]
  simp only [Res.bind_ok, wi, Bool.not_true, Bool.false_eq_true, if_false]
  rw [if_neg (by simp), tt, Res.bind_ok, e2, Res.bind_ok, tn, Res.bind_ok, Res.bind_ok, k2.sort, ks.same k2]
  show (Res.ok true).bind _ = _
  simp only [Res.bind_ok, if_true]
  rw [dEq_self pl]
  rfl
/-! the faults -/
def BadV (W j : Nat) (b : D) : Prop := ∃ e : Nat, e ≤ 1 ∧ ((((dIx b (D.int (0 : Int))).bind fun a17 => (rawB (dEq a17 (D.str ("both" : Str))))).bind fun a19 => .ok (if a19 = true then 1 else 0)) : Res Int) = .ok (e : Int) ∧ (∀ i, u_width_of (j + 1 + e + i) b (W : Int) = .ok .non) ∧ ∃ ts, VN (j + 1 + e) b ts
theorem BadV.mk {W j : Nat} {b : D} {ts : List D} (h : ((((dIx b (D.int (0 : Int))).bind fun a17 => (rawB (dEq a17 (D.str ("both" : Str))))).bind fun a19 => .ok (if a19 = true then 1 else 0)) : Res Int) = .ok 0) (hw : ∀ i, tb_width_of (u_width_of (j + i)) b (W : Int) = .ok .non) (hv : VN (j + 1) b ts) : BadV W j b :=
  ⟨0, by decide, h, fun i => by rw [show j + 1 + 0 + i = j + i + 1 by omega]; exact hw i, ts, hv⟩
theorem wm_rows_no {v : D} {W0 : Int} : t_width_made (.tup [.str "rows", .tup [.tup [.tup [.str "num", .int 0]], .tup [.tup [.str "num", .int 1], .tup [.str "num", .int 2]]], v]) W0 = .ok .non := by
  have cm : DL.compR [D.tup [.tup [.str "num", .int 0]], .tup [.tup [.str "num", .int 1], .tup [.str "num", .int 2]]] (fun some_3 => ((dLen some_3).bind D.asI)) = .ok [1, 2] := by
    unfold DL.compR
    rw [if_pos (fits_of (by simp))]
    rfl
  have al : t_all_alike (fLst D.int [1, 2]) = .ok false := unlike_two (by decide)
  unfold t_width_made
  simp only [dIx_p0, dIx_p1, Res.bind_ok, dEq_ss, decide_true, if_true, asItems_tup, cm, al, Bool.not_false]
theorem wm_match_no {ps : List (Int × List Int)} {t v : D} {W0 : Int} (hl : ps.length ≤ 8) (h : t_all_alike (.lst (ps.map fun p => D.int (p.2.length : Int))) = .ok false) : t_width_made (.tup [.str "match", .tup (ps.map pairP), t, v]) W0 = .ok .non := by
  have cm : DL.compR (ps.map pairP) (fun pair6 => (((dIx pair6 (D.int (1 : Int))).bind fun a7 => (dLen a7)).bind D.asI)) = .ok (ps.map fun p => (p.2.length : Int)) := comp_map (by omega) fun p _ => by
    unfold pairP ans
    rw [dIx_p1, Res.bind_ok, asI_len, List.length_map]
  have al : t_all_alike (fLst D.int (ps.map fun p => (p.2.length : Int))) = .ok false := by
    show t_all_alike (.lst ((ps.map fun p => (p.2.length : Int)).map D.int)) = _
    rw [List.map_map]
    exact h
  unfold t_width_made
  have sn : decide (Str.ofString "match" = Str.ofString "rows") = false := by decide +kernel
  simp only [dIx_p0, dIx_p1, Res.bind_ok, dEq_ss, sn, Bool.false_eq_true, if_false, asItems_tup, cm, al, Bool.not_false, if_true]
theorem wm_match_5 {row : List Int} {t v : D} {W0 : Nat} (h : 4 < W0 + row.length) : t_width_made (.tup [.str "match", .tup [pairP (0, row)], t, v]) W0 = .ok .non := by
  have cm : DL.compR [pairP (0, row)] (fun pair6 => (((dIx pair6 (D.int (1 : Int))).bind fun a7 => (dLen a7)).bind D.asI)) = .ok [(row.length : Int)] := by
    have := comp_map (f := fun pair6 => (((dIx pair6 (D.int (1 : Int))).bind fun a7 => (dLen a7)).bind D.asI)) (h := pairP) (g := fun p : Int × List Int => (p.2.length : Int)) (l := [(0, row)]) (by simp) fun p _ => by
      unfold pairP ans
      rw [dIx_p1, Res.bind_ok, asI_len, List.length_map]
    exact this
  have al : t_all_alike (fLst D.int [(row.length : Int)]) = .ok true := alike_ints' (l := [(row.length : Int)]) (a := row.length) (by simp) (fun x hx => by simpa using hx)
  have c4 : (4 : Int) < (W0 : Int) + (row.length : Int) := by omega
  unfold t_width_made
  have sn : decide (Str.ofString "match" = Str.ofString "rows") = false := by decide +kernel
  simp only [dIx_p0, dIx_p1, Res.bind_ok, dEq_ss, sn, Bool.false_eq_true, if_false, asItems_tup, cm, al, Bool.not_true, getL_zero]
  simp [c4]
theorem tnum (w : Nat) (i : Int) (h : -1000000000000000000 ≤ i ∧ i ≤ 1000000000000000000) : TOk w abc 3 (.tup [.str "num", .int i]) := .num h
theorem lbad_ok {v : D} {W W' j : Nat} {n : Int} {ts : List D} (w0 : 0 < W') (w4 : W' ≤ 4) (j6 : j ≤ 6) (hw : ∀ i, u_width_of (j + i) v (W : Int) = .ok (.int W')) (hv : VN j v ts) : Ok (t_l_bad v (W' : Int) n) (BadV W j) := by
  have f0 := Int.emod_nonneg (n / 8) (b := 3) (by decide)
  have f1 := Int.emod_lt_of_pos (n / 8) (b := 3) (by decide)
  obtain ⟨f, hf⟩ : ∃ f : Nat, (W' : Int) + n / 8 % 3 = (f : Int) := Int.eq_ofNat_of_zero_le (by omega)
  have fW : (W' : Int) ≤ (f : Int) := by omega
  have ls := ln_small hv (by omega)
  have taF : ∀ t : D, TOk (f + 1) abc 3 t → TA t := fun t h => ⟨_, h⟩
  have tField : TOk (f + 1) abc 2 (.tup [.str "field", .int (f : Int)]) := .field (by omega)
  have tField1 : TOk (f + 1) abc 3 (.tup [.str "field", .int (f : Int)]) := .field (by omega)
  have r5 : repT [(1 : Int)] ((5 : Int) - (W' : Int)) = .ok (List.replicate (5 - W') 1) := by
    have := repT_n (1 : Int) (w := 5 - W') (by omega)
    rw [show ((5 - W' : Nat) : Int) = 5 - (W' : Int) by omega] at this
    exact this
  have rw7 : repT [((fPr (fCons D.str (fOne D.int))) (("num" : Str), (0 : Int)))] ((1 : Int) + ((W' : Int) % (4 : Int))) = .ok (List.replicate (1 + W' % 4) (.tup [.str "num", .int 0])) := by
    have := repT_n (D.tup [.str "num", .int 0]) (w := 1 + W' % 4) (by omega)
    rw [show ((1 + W' % 4 : Nat) : Int) = 1 + (W' : Int) % 4 by omega] at this
    exact this
  unfold t_l_bad
  rw [Res.bind_ok, Res.bind_ok, appR_ok (by simp), Res.bind_ok, appR_ok (by simp), Res.bind_ok, appR_ok (by simp), Res.bind_ok, r5]
  simp only [Res.bind_ok]
  rw [appR_ok (by simp), Res.bind_ok, rw7]
  simp only [Res.bind_ok]
  rw [appR_ok (by simp), Res.bind_ok]
  have m0 := Int.emod_nonneg n (b := 8) (by decide)
  have m1 := Int.emod_lt_of_pos n (b := 8) (by decide)
  refine Exists.imp (fun d h => ⟨h.2, ?_⟩) (getL_mem (i := n % 8) (by omega) (by simp; omega))
  have h := h.1
  simp only [fPr_ap, fCons_ap, fOne_ap, fTup_ap, List.map_id', List.mem_append, List.mem_cons, List.not_mem_nil, or_false, hf] at h
  rcases h with ((((((rfl | rfl | rfl) | rfl) | rfl) | rfl) | rfl) | rfl)
  · refine BadV.mk (by simp [dIx_p0]) (fun i => width_nofit (ts := []) (rs := []) (by simp [dIx_p0]) iv_keep (hw i) ot_keep (fun t h => by cases h) (far_both _) fW) (hv.one ot_keep iv_keep (fun x hx => mem1 (P := TA) (taF _ (.bin (by unfold binOps; simp) (tnum 0 1 (by decide) |> fun _ => .num (by decide)) tField)) hx) (by simp) fun i => lt_keep (hv.tm i) ls)
  · exact BadV.mk (by simp [dIx_p0]) (fun i => width_nofit (ts := []) (rs := []) (by simp [dIx_p0]) iv_cap (hw i) ot_cap (fun t h => by cases h) (far_field _) fW) (hv.one ot_cap iv_cap (fun x hx => mem1 (P := TA) (taF _ tField1) hx) (by simp) fun i => lt_cap (hv.tm i) ls)
  · exact BadV.mk (by simp [dIx_p0]) (fun i => width_nofit (ts := []) (rs := []) (by simp [dIx_p0]) iv_match (hw i) ot_match (fun t h => by cases h) (far_field _) fW) (hv.one ot_match iv_match (fun x hx => mem1 (P := TA) (taF _ tField1) hx) (by simp) fun i => lt_match (hv.tm i) ls)
  · have hL : ∀ L ∈ [[D.tup [.str "num", .int 0]], [D.tup [.str "not", .tup [.str "field", .int (f : Int)]]]], L.length ≤ 4 := fun L hL => by
      simp only [List.mem_cons, List.not_mem_nil, or_false] at hL
      rcases hL with rfl | rfl <;> simp
    refine BadV.mk (by simp [dIx_p0]) (fun i => width_nofit (ts := [.tup [.str "num", .int 0]]) (rs := []) (by simp [dIx_p0]) iv_rows (hw i) (ot_rows (Ls := [[D.tup [.str "num", .int 0]], [D.tup [.str "not", .tup [.str "field", .int (f : Int)]]]]) hL (by simp)) (fun t h => mem1 (P := fun t => TOk W' abc 3 t) (tnum _ 0 (by decide)) h) (far_not _) fW) (hv.one (ot_rows (Ls := [[D.tup [.str "num", .int 0]], [D.tup [.str "not", .tup [.str "field", .int (f : Int)]]]]) hL (by simp)) iv_rows (fun x hx => ?_) (by simp) fun i => lt_rows (hv.tm i) ls hL (by simp))
    simp only [List.flatten_cons, List.flatten_nil, List.mem_append, List.mem_cons, List.not_mem_nil, or_false] at hx
    rcases hx with rfl | rfl
    · exact ⟨0, tnum 0 0 (by decide)⟩
    · exact taF _ (.un tField)
  · have hL : ∀ L ∈ [[D.tup [.str "num", .int 0]], [D.tup [.str "num", .int 1], .tup [.str "num", .int 2]]], L.length ≤ 4 := fun L hL => by
      simp only [List.mem_cons, List.not_mem_nil, or_false] at hL
      rcases hL with rfl | rfl <;> simp
    have tm : ∀ w, ∀ x ∈ ([[D.tup [.str "num", .int 0]], [D.tup [.str "num", .int 1], .tup [.str "num", .int 2]]]).flatten, TOk w abc 3 x := fun w x hx => by
      simp only [List.flatten_cons, List.flatten_nil, List.mem_append, List.mem_cons, List.not_mem_nil, or_false] at hx
      rcases hx with rfl | rfl | rfl
      · exact tnum _ 0 (by decide)
      · exact tnum _ 1 (by decide)
      · exact tnum _ 2 (by decide)
    refine BadV.mk (by simp [dIx_p0]) (fun i => ?_) (hv.one (ot_rows (Ls := [[D.tup [.str "num", .int 0]], [D.tup [.str "num", .int 1], .tup [.str "num", .int 2]]]) hL (by simp)) iv_rows (fun x hx => ⟨0, tm 0 x hx⟩) (by simp) fun i => lt_rows (hv.tm i) ls hL (by simp))
    refine (width_step (kn := abc) (G := u_width_of (j + i)) (by simp [dIx_p0]) iv_rows (by simp) (fun u hu => mem1 (P := fun u => u_width_of (j + i) u (W : Int) = .ok (.int W')) (hw i) hu) (ot_rows (Ls := [[D.tup [.str "num", .int 0]], [D.tup [.str "num", .int 1], .tup [.str "num", .int 2]]]) hL (by simp)) (tm W')).trans ?_
    rw [dIx_p0]
    have := wm_rows_no (v := v) (W0 := (W' : Int))
    simp [this]
  · have ta := tnum 0 0 (by decide)
    refine BadV.mk (by simp [dIx_p0]) (fun i => ?_) (hv.one ot_match iv_match (fun x hx => mem1 (P := TA) ⟨0, ta⟩ hx) (by simp) fun i => lt_match (hv.tm i) ls)
    refine (width_step (kn := abc) (G := u_width_of (j + i)) (by simp [dIx_p0]) iv_match (by simp) (fun u hu => mem1 (P := fun u => u_width_of (j + i) u (W : Int) = .ok (.int W')) (hw i) hu) ot_match (fun t ht' => mem1 (P := fun t => TOk W' abc 3 t) (tnum _ 0 (by decide)) ht')).trans ?_
    rw [dIx_p0]
    have q : t_all_alike (.lst ([((0 : Int), [(1 : Int)]), (0, [1, 2]), (3, [4])].map fun p => D.int (p.2.length : Int))) = .ok false := by
      show t_all_alike (.lst (([1, 2, 1] : List Int).map D.int)) = _
      unfold t_all_alike
      rw [dLenSetI (by simp)]
      have : 1 < (nubL ([1, 2, 1] : List Int)).length := by
        have m1 : (1 : Int) ∈ nubL ([1, 2, 1] : List Int) := nubL_mem.mpr (by simp)
        have m2 : (2 : Int) ∈ nubL ([1, 2, 1] : List Int) := nubL_mem.mpr (by simp)
        generalize nubL ([1, 2, 1] : List Int) = l at m1 m2
        match l, m1, m2 with
        | [], m1, _ => cases m1
        | [x], m1, m2 =>
          rw [List.mem_singleton] at m1 m2
          rw [← m1] at m2
          exact absurd m2 (by decide)
        | _ :: _ :: _, _, _ => simp
      simp only [Res.bind_ok, D.asI]
      congr 1
      simp
      omega
    have := wm_match_no (t := .tup [.str "num", .int 0]) (v := v) (W0 := (W' : Int)) (ps := [((0 : Int), [(1 : Int)]), (0, [1, 2]), (3, [4])]) (by simp) q
    have this : t_width_made (.tup [.str "match", .tup [.tup [.int 0, ans [1]], .tup [.int 0, .tup [.int 1, .int 2]], .tup [.int 3, ans [4]]], .tup [.str "num", .int 0], v]) (W' : Int) = .ok .non := this
    simp [this]
  · have ta := tnum 0 0 (by decide)
    refine BadV.mk (by simp [dIx_p0]) (fun i => ?_) (hv.one ot_match iv_match (fun x hx => mem1 (P := TA) ⟨0, ta⟩ hx) (by simp) fun i => lt_match (hv.tm i) ls)
    refine (width_step (kn := abc) (G := u_width_of (j + i)) (by simp [dIx_p0]) iv_match (by simp) (fun u hu => mem1 (P := fun u => u_width_of (j + i) u (W : Int) = .ok (.int W')) (hw i) hu) ot_match (fun t ht' => mem1 (P := fun t => TOk W' abc 3 t) (tnum _ 0 (by decide)) ht')).trans ?_
    rw [dIx_p0]
    have := wm_match_5 (row := List.replicate (5 - W') 1) (t := .tup [.str "num", .int 0]) (v := v) (W0 := W') (by rw [List.length_replicate]; omega)
    have this : t_width_made (.tup [.str "match", .tup [.tup [.int 0, ans (List.replicate (5 - W') 1)]], .tup [.str "num", .int 0], v]) (W' : Int) = .ok .non := this
    simp [this]
  · have hL : ∀ L ∈ [List.replicate (1 + W' % 4) (D.tup [.str "num", .int 0])], L.length ≤ 4 := fun L hL => by
      rw [List.mem_singleton] at hL
      subst hL
      rw [List.length_replicate]; omega
    have tm : ∀ w, ∀ x ∈ ([List.replicate (1 + W' % 4) (D.tup [.str "num", .int 0])]).flatten, TOk w abc 3 x := fun w x hx => by
      rw [List.flatten_cons, List.flatten_nil, List.append_nil, List.mem_replicate] at hx
      rw [hx.2]
      exact tnum _ 0 (by decide)
    have rv : VN (j + 1) (.tup [.str "rows", .tup ([List.replicate (1 + W' % 4) (D.tup [.str "num", .int 0])].map D.tup), v]) _ := hv.one (ot_rows hL (by simp)) iv_rows (fun x hx => ⟨0, tm 0 x hx⟩) (by simp; omega) fun i => lt_rows (hv.tm i) ls hL (by simp)
    have tw := hv.two rv (by omega) (by omega)
    rw [show max j (j + 1) + 1 = j + 1 + 1 by omega] at tw
    have rwd : ∀ i, u_width_of (j + 1 + i) (.tup [.str "rows", .tup ([List.replicate (1 + W' % 4) (D.tup [.str "num", .int 0])].map D.tup), v]) (W : Int) = .ok (.int ((1 + W' % 4 : Nat) : Int)) := fun i => by
      rw [Nat.add_right_comm]
      refine (width_step (kn := abc) (G := u_width_of (j + i)) (by simp [dIx_p0]) iv_rows (by simp) (fun u hu => mem1 (P := fun u => u_width_of (j + i) u (W : Int) = .ok (.int W')) (hw i) hu) (ot_rows hL (by simp)) (tm W')).trans ?_
      rw [dIx_p0]
      have := wm_rows (Ls := [List.replicate (1 + W' % 4) (D.tup [.str "num", .int 0])]) (d := 1 + W' % 4) (v := v) (W0 := (W' : Int)) (by simp) fun L hL => by rw [List.mem_singleton] at hL; rw [hL, List.length_replicate]
      simp only [Res.bind_ok, dEq_ss, decide_true, if_true]
      exact this
    refine ⟨1, by decide, by simp [dIx_p0], fun i => ?_, _, tw⟩
    rw [show j + 1 + 1 + i = j + 1 + i + 1 by omega]
    refine width_two (G := u_width_of (j + 1 + i)) (a := (W' : Int)) (b := ((1 + W' % 4 : Nat) : Int)) ?_ (rwd i) (by omega)
    rw [show j + 1 + i = j + (1 + i) by omega]
    exact hw (1 + i)
/-! the law -/
theorem rg_three {l : Nat} (h0 : 1 ≤ l) (h1 : l ≤ 1000) : RgC 0 (l : Int) 3 ((l + 2) / 3) := by
  have e : Builtin.Range.rangeSize 0 (l : Int) 3 = (((l + 2) / 3 : Nat) : Int) := by
    unfold Builtin.Range.rangeSize
    rw [if_pos (by decide), if_pos (by omega)]
    omega
  refine ⟨by decide, by decide, ?_, e⟩
  unfold Builtin.Range.small
  rw [e]
  have q0 : (0 : Int) ≤ (((l + 2) / 3 : Nat) : Int) := by omega
  have q1 : (((l + 2) / 3 : Nat) : Int) ≤ 1000 := by omega
  have l1 : (l : Int) ≤ 1000 := by omega
  have l0 : (1 : Int) ≤ (l : Int) := by omega
  generalize (((l + 2) / 3 : Nat) : Int) = q at q0 q1 ⊢
  generalize (l : Int) = y at l0 l1 ⊢
  simp only [Builtin.Range.rangeFitsLong, Bool.and_eq_true, Bool.or_eq_true, decide_eq_true_eq, beq_iff_eq, show (3 : Int) > 0 by decide, if_true]
  omega
theorem rng3_three {x : Int} (h0 : 1 ≤ x) (h1 : x ≤ 1000) : Ok (rng3 0 x 3) fun ks => ∀ k ∈ ks, 0 ≤ k := by
  obtain ⟨l, rfl⟩ := Int.eq_ofNat_of_zero_le (show 0 ≤ x by omega)
  have hx : ∃ n, RgC 0 (l : Int) 3 n := ⟨_, rg_three (by omega) (by omega)⟩
  unfold rng3
  rw [dif_pos hx]
  refine ⟨_, rfl, fun k hk => ?_⟩
  unfold prog3I at hk
  obtain ⟨i, _, rfl⟩ := List.mem_map.mp hk
  omega
theorem law_typed (s : List Int) (hl : s.length ≤ 63) (hb : ∀ z ∈ s, Sm 1048576 z) : t_law s = .ok true := by
  have c0 := cell_at_eq s 0 (by decide)
  generalize s.getD (0 : Int).toNat 0 = x0 at c0
  obtain ⟨W, hW, w0, w4⟩ : ∃ W : Nat, 1 + x0 % 4 = (W : Int) ∧ 0 < W ∧ W ≤ 4 := ⟨(1 + x0 % 4).toNat, by omega, by omega, by omega⟩
  have cutm : ∀ {a b : Option Int} {z : Int}, z ∈ cutL s a b → z ∈ s := fun {a b z} hz => by unfold cutL at hz; exact List.mem_of_mem_drop (List.mem_of_mem_take hz)
  have cutl : ∀ {a b : Option Int}, (cutL s a b).length ≤ 63 := fun {a b} => by unfold cutL; rw [List.length_take, List.length_drop]; omega
  unfold t_law
  rw [c0]
  simp only [Res.bind_ok, hW]
  obtain ⟨ks, ek, kn⟩ := rng3_three (x := max (1 : Int) ((s.length : Nat) : Int)) (by omega) (by omega)
  rw [ek, Res.bind_ok, forX_unit, thenX_nx]
  intro k hk
  have k0 := kn k hk
  have cm := cell_at_eq s k k0
  have cb : Sm 1048600 (s.getD k.toNat 0) := by
    by_cases h : k.toNat < s.length
    · rw [List.getD_eq_getElem?_getD, List.getElem?_eq_getElem h]
      exact (hb _ (List.getElem_mem h)).mono (by decide)
    · rw [List.getD_eq_getElem?_getD, List.getElem?_eq_none (by omega)]
      exact (sm64 (by decide) (by decide)).mono (by decide)
  generalize s.getD k.toNat 0 = cell at cm cb
  obtain ⟨L, eL, hL⟩ := views_ok (cells := cutL s (some k) (some (k + 3))) (W := W) (m := []) trivial (fun z hz => (hb z (cutm hz)).mono (by decide)) (Nat.le_trans cutl (by decide)) w0 w4
  rw [eL, Res.bind_ok, forX_unit, thenX_nx]
  intro x hx
  obtain ⟨v, wd, st, gr, dp⟩ := x
  obtain ⟨W', c, j, e1, e2, e3, x0, x4, c64, j6, hg⟩ := hL _ hx
  dsimp only at e1 e2 e3 hg ⊢
  obtain ⟨hw, ts, hv⟩ := hg (by omega)
  subst e1 e3
  rw [told_ok (by omega) hw (.inr ⟨_, rfl, rfl⟩) hv rfl]
  simp only [Res.bind_ok, Bool.not_true, Bool.false_eq_true, if_false, cm]
  obtain ⟨n, en, _⟩ := mix_ok (cell := cell + (j : Int)) (k := 390) ((cb.add (show Sm 1048600 (j : Int) from (sm64 (by omega) (by omega)).mono (by decide))).mono (by decide)) (by decide) (by decide)
  obtain ⟨b, eb, e, he, hb0, hbw, us, hbv⟩ := lbad_ok (n := n) x0 x4 j6 hw hv
  rw [en, Res.bind_ok, eb, Res.bind_ok, hb0]
  simp only [Res.bind_ok]
  by_cases c5 : (5 : Int) < (j : Int) + 1 + (e : Int)
  · rw [if_pos c5]
  · rw [if_neg c5, told_ok (by omega) hbw (.inl ⟨rfl, rfl⟩) hbv (by omega)]
    simp only [Res.bind_ok, Bool.not_true, Bool.false_eq_true, if_false]
    have uv := hbv.one (ot_unlike (v := b)) iv_unlike (fun x hx => by cases hx) (by simp) fun i => lt_unlike (hbv.tm i) (ln_small hbv (by omega))
    have uw : ∀ i, u_width_of (j + 1 + e + 1 + i) (.tup [.str "unlike", b]) (W : Int) = .ok .non := fun i => by
      rw [show j + 1 + e + 1 + i = j + 1 + e + i + 1 by omega]
      exact width_inner (G := u_width_of (j + 1 + e + i)) (by simp [dIx_p0]) iv_unlike (hbw i)
    rw [show ((fPr (fCons D.str (fOne (fun d => d)))) (("unlike" : Str), b)) = D.tup [.str "unlike", b] from rfl, told_ok (by omega) uw (.inl ⟨rfl, rfl⟩) uv (by omega)]
    simp only [Res.bind_ok, Bool.not_true, Bool.false_eq_true, if_false]
theorem law_holds (ns : List Int) (hl : ns.length ≤ 63) (hb : ∀ z ∈ ns, intBits z ≤ 1048576) : F_law [.lst (ns.map D.int)] = .ok (.bl true) := by
  obtain ⟨d, h1, h2⟩ := (r_law ns _ ⟨_, rfl, _, rfl, A2.fn.mpr rfl⟩).get (law_typed ns hl fun z hz => sm_bits (hb z hz))
  rw [h1, show d = _ from h2]

end DLaw
namespace DLaw
open PySem PySem.Spec PyProof.Rows L2
open DL
abbrev N_l_cell_at : List Str := ["_law_script", "_law_k"]
theorem sc_l_cell_at : FnScope N_l_cell_at ["_law_script", "_law_k"] (defScope s_l_cell_at) := ⟨rfl, rfl, rfl, by decide +kernel, rfl, by decide +kernel, by decide +kernel⟩
theorem ok_l_cell_at {P : Program} {w : World} {K : PySem.W.Frag} {mg : Str → Option Value} {base : Heap} {f : Addr} {fd : FuncData} (T : Txt K mg) (F : Fun K "_law_cell_at" "_law_cell_at" s_l_cell_at f fd)  :
    FnOk P w K mg base (L2.CX P w) 1 f fd ["_law_script", "_law_k"] (spD K mg 2 F_l_cell_at) :=
  fnD (N := N_l_cell_at) (k := 0) (fb := b_l_cell_at) F sc_l_cell_at fun cdv A outer s H G E hr tk hp =>
    by have hu := Room.hu hr; exact (dss_cons (ds_if (al := []) (dt_cmp (od_lt hu) (dr (dv 1)) (dr (de_b1 c1_len rfl T.z_len rfl (dr (dv 0)))) (nomark _)) (dss_cons (ds_ret (al := []) (de_ixA hr.hu1 (dr (dv 0)) (dv 1) (fun _ _ => rfl) (fun _ _ => rfl))) dss_nil) dss_nil) (dss_cons (ds_ret (al := []) de_int) dss_nil))
abbrev N_l_mix : List Str := ["_law_cell", "_law_k", "_law_m"]
theorem sc_l_mix : FnScope N_l_mix ["_law_cell", "_law_k"] (defScope s_l_mix) := ⟨rfl, rfl, rfl, by decide +kernel, rfl, by decide +kernel, by decide +kernel⟩
theorem ok_l_mix {P : Program} {w : World} {K : PySem.W.Frag} {mg : Str → Option Value} {base : Heap} {f : Addr} {fd : FuncData} (T : Txt K mg) (F : Fun K "_law_mix" "_law_mix" s_l_mix f fd)  :
    FnOk P w K mg base (L2.CX P w) 1 f fd ["_law_cell", "_law_k"] (spD K mg 2 F_l_mix) :=
  fnD (N := N_l_mix) (k := 0) (fb := b_l_mix) F sc_l_mix fun cdv A outer s H G E hr tk hp =>
    by exact (dss_cons (ds_set (al := []) (i := 2) sc_l_mix.nd rfl (by first | exact .inl rfl | exact .inr rfl) (de_bin od_mod (dr (de_bin od_add (dr (de_bin od_mul (dr (dv 0)) (dr de_int))) (dr (de_bin od_mul (dr (de_bin od_mul (dr (de_bin od_add (dr (dv 1)) (dr de_int))) (dr (de_bin od_add (dr (dv 1)) (dr de_int))))) (dr de_int))))) (dr de_int))) (dss_cons (ds_ret (al := []) (de_bin od_mod (dr (de_bin od_mul (dr (dv 2)) (dr (dv 2)))) (dr de_int))) dss_nil))
abbrev N_l_number : List Str := ["_law_cell", "_law_k", "_law_many", "_law_n"]
theorem sc_l_number : FnScope N_l_number ["_law_cell", "_law_k", "_law_many"] (defScope s_l_number) := ⟨rfl, rfl, rfl, by decide +kernel, rfl, by decide +kernel, by decide +kernel⟩
theorem ok_l_number {P : Program} {w : World} {K : PySem.W.Frag} {mg : Str → Option Value} {base : Heap} {f : Addr} {fd : FuncData} (T : Txt K mg) (F : Fun K "_law_number" "_law_number" s_l_number f fd) (c_l_mix : CallOk P w K mg base 1 "_law_mix" ["_law_cell", "_law_k"] F_l_mix) :
    FnOk P w K mg base (L2.CX P w) 2 f fd ["_law_cell", "_law_k", "_law_many"] (spD K mg 3 F_l_number) :=
  fnD (N := N_l_number) (k := 1) (fb := b_l_number) F sc_l_number fun cdv A outer s H G E hr tk hp =>
    by have hu := Room.hu hr; exact (dss_cons (ds_set (al := []) (i := 3) sc_l_number.nd rfl (by first | exact .inl rfl | exact .inr rfl) (de_callE c_l_mix hr rfl tk (da_cons (dv 0) (da_cons (dv 1) da_nil)) (leq_cons (leq_cons leq_nil)))) (dss_cons (ds_if (al := []) (dt_cmp (od_eq hu) (dr (de_bin od_mod (dr (dv 3)) (dr de_int))) (dr de_int) (nomark _)) (dss_cons (ds_ret (al := []) (de_bin od_sub (dr (de_bin od_mod (dr (dv 0)) (dr (de_bin od_add (dr (de_bin od_mul (dr de_int) (dr (de_bin od_pow (dr de_int) (dr de_int))))) (dr de_int))))) (dr (de_bin od_pow (dr de_int) (dr de_int))))) dss_nil) dss_nil) (dss_cons (ds_ret (al := []) (de_bin od_sub (dr (de_bin od_mod (dr (de_bin od_div (dr (dv 3)) (dr de_int))) (dr (dv 2)))) (dr (de_bin od_div (dr (dv 2)) (dr de_int))))) dss_nil)))
abbrev N_l_leaf : List Str := ["_law_cell", "_law_k", "_law_width", "_law_n"]
theorem sc_l_leaf : FnScope N_l_leaf ["_law_cell", "_law_k", "_law_width"] (defScope s_l_leaf) := ⟨rfl, rfl, rfl, by decide +kernel, rfl, by decide +kernel, by decide +kernel⟩
theorem ok_l_leaf {P : Program} {w : World} {K : PySem.W.Frag} {mg : Str → Option Value} {base : Heap} {f : Addr} {fd : FuncData} (T : Txt K mg) (F : Fun K "_law_leaf" "_law_leaf" s_l_leaf f fd) (c_l_mix : CallOk P w K mg base 2 "_law_mix" ["_law_cell", "_law_k"] F_l_mix) (c_l_number : CallOk P w K mg base 2 "_law_number" ["_law_cell", "_law_k", "_law_many"] F_l_number) :
    FnOk P w K mg base (L2.CX P w) 3 f fd ["_law_cell", "_law_k", "_law_width"] (spD K mg 3 F_l_leaf) :=
  fnD (N := N_l_leaf) (k := 2) (fb := b_l_leaf) F sc_l_leaf fun cdv A outer s H G E hr tk hp =>
    by have hu := Room.hu hr; exact (dss_cons (ds_set (al := []) (i := 3) sc_l_leaf.nd rfl (by first | exact .inl rfl | exact .inr rfl) (de_callE c_l_mix hr rfl tk (da_cons (dv 0) (da_cons (dv 1) da_nil)) (leq_cons (leq_cons leq_nil)))) (dss_cons (ds_if (al := []) (dt_cmp (od_eq hu) (dr (de_bin od_mod (dr (dv 3)) (dr de_int))) (dr de_int) (nomark _)) (dss_cons (ds_ret (al := []) (de_tup (da_cons de_str (da_cons (de_callE c_l_number hr rfl tk (da_cons (dv 0) (da_cons (de_bin od_add (dr (dv 1)) (dr de_int)) (da_cons de_int da_nil))) (leq_cons (leq_cons (leq_cons leq_nil)))) da_nil)) (len_cons (len_cons len_nil)) (szl (by decide)))) dss_nil) dss_nil) (dss_cons (ds_if (al := []) (dt_cmp (od_eq hu) (dr (de_bin od_mod (dr (dv 3)) (dr de_int))) (dr de_int) (nomark _)) (dss_cons (ds_ret (al := []) (de_tup (da_cons de_str (da_cons (de_ixA hr.hu1 (dr (de_of (df_lst (da_cons de_str (da_cons de_str (da_cons de_str da_nil))) (len_cons (len_cons (len_cons len_nil))) (szl (by decide))))) (de_bin od_mod (dr (de_bin od_div (dr (dv 3)) (dr de_int))) (dr de_int)) (fun _ _ => rfl) (fun _ _ => rfl)) da_nil)) (len_cons (len_cons len_nil)) (szl (by decide)))) dss_nil) dss_nil) (dss_cons (ds_ret (al := []) (de_tup (da_cons de_str (da_cons (de_bin od_mod (dr (de_bin od_div (dr (dv 3)) (dr de_int))) (dr (dv 2))) da_nil)) (len_cons (len_cons len_nil)) (szl (by decide)))) dss_nil))))
abbrev N_l_term : List Str := ["_law_cell", "_law_k", "_law_width", "_law_n", "_law_one", "_law_two", "_law_way", "_law_ops"]
theorem sc_l_term : FnScope N_l_term ["_law_cell", "_law_k", "_law_width"] (defScope s_l_term) := ⟨rfl, rfl, rfl, by decide +kernel, rfl, by decide +kernel, by decide +kernel⟩
theorem ok_l_term {P : Program} {w : World} {K : PySem.W.Frag} {mg : Str → Option Value} {base : Heap} {f : Addr} {fd : FuncData} (T : Txt K mg) (F : Fun K "_law_term" "_law_term" s_l_term f fd) (c_l_mix : CallOk P w K mg base 3 "_law_mix" ["_law_cell", "_law_k"] F_l_mix) (c_l_leaf : CallOk P w K mg base 3 "_law_leaf" ["_law_cell", "_law_k", "_law_width"] F_l_leaf) :
    FnOk P w K mg base (L2.CX P w) 4 f fd ["_law_cell", "_law_k", "_law_width"] (spD K mg 3 F_l_term) :=
  fnD (N := N_l_term) (k := 3) (fb := b_l_term) F sc_l_term fun cdv A outer s H G E hr tk hp =>
    by have hu := Room.hu hr; exact (dss_cons (ds_set (al := []) (i := 3) sc_l_term.nd rfl (by first | exact .inl rfl | exact .inr rfl) (de_callE c_l_mix hr rfl tk (da_cons (dv 0) (da_cons (dv 1) da_nil)) (leq_cons (leq_cons leq_nil)))) (dss_cons (ds_set (al := []) (i := 4) sc_l_term.nd rfl (by first | exact .inl rfl | exact .inr rfl) (de_callE c_l_leaf hr rfl tk (da_cons (dv 0) (da_cons (de_bin od_add (dr (dv 1)) (dr de_int)) (da_cons (dv 2) da_nil))) (leq_cons (leq_cons (leq_cons leq_nil))))) (dss_cons (ds_set (al := []) (i := 5) sc_l_term.nd rfl (by first | exact .inl rfl | exact .inr rfl) (de_callE c_l_leaf hr rfl tk (da_cons (dv 0) (da_cons (de_bin od_add (dr (dv 1)) (dr de_int)) (da_cons (dv 2) da_nil))) (leq_cons (leq_cons (leq_cons leq_nil))))) (dss_cons (ds_set (al := []) (i := 6) sc_l_term.nd rfl (by first | exact .inl rfl | exact .inr rfl) (de_bin od_mod (dr (dv 3)) (dr de_int))) (dss_cons (ds_if (al := []) (dt_cmp (od_lt hu) (dr (dv 6)) (dr de_int) (nomark _)) (dss_cons (ds_ret (al := []) (dv 4)) dss_nil) dss_nil) (dss_cons (ds_if (al := []) (dt_cmp (od_eq hu) (dr (dv 6)) (dr de_int) (nomark _)) (dss_cons (ds_ret (al := []) (de_tup (da_cons de_str (da_cons (dv 4) da_nil)) (len_cons (len_cons len_nil)) (szl (by decide)))) dss_nil) dss_nil) (dss_cons (ds_if (al := []) (dt_cmp (od_eq hu) (dr (dv 6)) (dr de_int) (nomark _)) (dss_cons (ds_ret (al := []) (de_tup (da_cons de_str (da_cons (dv 4) (da_cons (dv 5) (da_cons (de_callE c_l_leaf hr rfl tk (da_cons (dv 0) (da_cons (de_bin od_add (dr (dv 1)) (dr de_int)) (da_cons (dv 2) da_nil))) (leq_cons (leq_cons (leq_cons leq_nil)))) da_nil)))) (len_cons (len_cons (len_cons (len_cons len_nil)))) (szl (by decide)))) dss_nil) dss_nil) (dss_cons (ds_set (al := []) (i := 7) sc_l_term.nd rfl (by first | exact .inl rfl | exact .inr rfl) (de_of (df_lst (da_cons de_str (da_cons de_str (da_cons de_str (da_cons de_str (da_cons de_str (da_cons de_str (da_cons de_str (da_cons de_str da_nil)))))))) (len_cons (len_cons (len_cons (len_cons (len_cons (len_cons (len_cons (len_cons len_nil)))))))) (szl (by decide))))) (dss_cons (ds_ret (al := []) (de_tup (da_cons (de_ixA hr.hu1 (dr (dv 7)) (de_bin od_mod (dr (de_bin od_div (dr (dv 3)) (dr de_int))) (dr de_int)) (fun _ _ => rfl) (fun _ _ => rfl)) (da_cons (dv 4) (da_cons (dv 5) da_nil))) (len_cons (len_cons (len_cons len_nil))) (szl (by decide)))) dss_nil)))))))))
abbrev N_l_made_pairs : List Str := ["_law_cell", "_law_wide", "_law_n", "_law_pairs", "_law_j", "_law_one", "_law_row", "_law_i"]
theorem sc_l_made_pairs : FnScope N_l_made_pairs ["_law_cell", "_law_wide"] (defScope s_l_made_pairs) := ⟨rfl, rfl, rfl, by decide +kernel, rfl, by decide +kernel, by decide +kernel⟩
theorem ok_l_made_pairs {P : Program} {w : World} {K : PySem.W.Frag} {mg : Str → Option Value} {base : Heap} {f : Addr} {fd : FuncData} (T : Txt K mg) (F : Fun K "_law_made_pairs" "_law_made_pairs" s_l_made_pairs f fd) (c_l_mix : CallOk P w K mg base 2 "_law_mix" ["_law_cell", "_law_k"] F_l_mix) (c_l_number : CallOk P w K mg base 2 "_law_number" ["_law_cell", "_law_k", "_law_many"] F_l_number) :
    FnOk P w K mg base (L2.CX P w) 3 f fd ["_law_cell", "_law_wide"] (spD K mg 2 F_l_made_pairs) :=
  fnD (N := N_l_made_pairs) (k := 2) (fb := b_l_made_pairs) F sc_l_made_pairs fun cdv A outer s H G E hr tk hp =>
    by have hu := Room.hu hr; exact (dss_cons (ds_set (al := []) (i := 2) sc_l_made_pairs.nd rfl (by first | exact .inl rfl | exact .inr rfl) (de_callE c_l_mix hr rfl tk (da_cons (dv 0) (da_cons de_int da_nil)) (leq_cons (leq_cons leq_nil)))) (dss_cons (ds_setF (al := []) (i := 3) sc_l_made_pairs.nd rfl (by first | exact .inl rfl | exact .inr rfl) (df_lst da_nil len_nil (szl (by decide)))) (dss_cons (ds_if (al := []) (dt_cmp (od_eq hu) (dr (dv 1)) (dr de_int) (nomark _)) (dss_cons (ds_ret (al := []) (de_tup da_nil len_nil (by decide))) dss_nil) dss_nil) (dss_cons (ds_for (al := []) hp rfl (di_range1 rfl T.z_range (de_bin od_mod (dr (dv 2)) (dr de_int))) (dg_name (i := 4) sc_l_made_pairs.nd rfl (by first | exact .inl rfl | exact .inr rfl)) (fun _ => (dss_cons (ds_set (al := []) (i := 5) sc_l_made_pairs.nd rfl (by first | exact .inl rfl | exact .inr rfl) (de_bin od_add (dr (dv 0)) (dr (de_bin od_mul (dr (de_bin od_mul (dr (dv 4)) (dr (dv 4)))) (dr de_int))))) (dss_cons (ds_set (al := []) (i := 6) sc_l_made_pairs.nd rfl (by first | exact .inl rfl | exact .inr rfl) (de_t1 c1_tuple rfl T.z_tuple rfl (dr (de_of (df_comp (own := [("_law_i", 7)]) rfl sc_l_made_pairs.nd (dir_of (di_range1 rfl T.z_range (de_bin od_add (dr de_int) (dr (de_bin od_mod (dr (de_bin od_div (dr (dv 2)) (dr de_int))) (dr (de_bin od_sub (dr de_int) (dr (dv 1))))))))) (blkOk_by (N := N_l_made_pairs) (sc := defScope s_l_made_pairs) (by decide +kernel)) (fun _ _ _ _ _ => (dg_name (i := 7) sc_l_made_pairs.nd rfl (by first | exact .inl rfl | exact .inr rfl))) (fun _ _ _ _ _ => dts_nil) (fun _ _ _ _ _ => (de_callE c_l_number hr rfl takes0 (da_cons (dv 5) (da_cons (de_bin od_add (dr de_int) (dr (dv 7))) (da_cons de_int da_nil))) (leq_cons (leq_cons (leq_cons leq_nil))))) (by decide)))))) (dss_cons (ds_mut (al := []) (i := 3) PySem.F.slot_list_append PySem.F.type_list_append mut_append rfl (by first | exact .inl rfl | exact .inr (.inl rfl) | exact .inr (.inr rfl)) (da_cons (de_tup (da_cons (de_bin od_sub (dr (de_bin od_mod (dr (de_callE c_l_mix hr rfl tk (da_cons (dv 5) (da_cons de_int da_nil)) (leq_cons (leq_cons leq_nil)))) (dr de_int))) (dr de_int)) (da_cons (dv 6) da_nil)) (len_cons (len_cons len_nil)) (szl (by decide))) da_nil)) dss_nil))))) (dss_cons (ds_ret (al := []) (de_t1 c1_tuple rfl T.z_tuple rfl (dr_var (i := 3) rfl (by first | exact .inl rfl | exact .inr (.inl rfl) | exact .inr (.inr rfl))))) dss_nil)))))
abbrev N_l_most : List Str := ["_law_pairs", "_law_numbers", "_law_pair", "_law_number_here"]
theorem sc_l_most : FnScope N_l_most ["_law_pairs"] (defScope s_l_most) := ⟨rfl, rfl, rfl, by decide +kernel, rfl, by decide +kernel, by decide +kernel⟩
theorem ok_l_most {P : Program} {w : World} {K : PySem.W.Frag} {mg : Str → Option Value} {base : Heap} {f : Addr} {fd : FuncData} (T : Txt K mg) (F : Fun K "_law_most" "_law_most" s_l_most f fd)  :
    FnOk P w K mg base (L2.CX P w) 1 f fd ["_law_pairs"] (spD K mg 1 F_l_most) :=
  fnD (N := N_l_most) (k := 0) (fb := b_l_most) F sc_l_most fun cdv A outer s H G E hr tk hp =>
    by have hu := Room.hu hr; exact (dss_cons (ds_set (al := []) (i := 1) sc_l_most.nd rfl (by first | exact .inl rfl | exact .inr rfl) (de_of (df_comp (own := [("_law_pair", 2)]) rfl sc_l_most.nd (dir_of (di_seq (dv 0))) (blkOk_by (N := N_l_most) (sc := defScope s_l_most) (by decide +kernel)) (fun _ _ _ _ _ => (dg_name (i := 2) sc_l_most.nd rfl (by first | exact .inl rfl | exact .inr rfl))) (fun _ _ _ _ _ => dts_nil) (fun _ _ _ _ _ => (de_ix (dr (dv 2)) (dr de_int) (fun _ _ => rfl))) (by decide)))) (dss_cons (ds_ret (al := []) (de_maxDef rfl (hu) rfl T.z_max (dr (de_of (df_comp (own := [("_law_number_here", 3)]) rfl sc_l_most.nd (dir_of (di_seq (dv 1))) (blkOk_by (N := N_l_most) (sc := defScope s_l_most) (by decide +kernel)) (fun _ _ _ _ _ => (dg_name (i := 3) sc_l_most.nd rfl (by first | exact .inl rfl | exact .inr rfl))) (fun _ _ _ _ _ => dts_nil) (fun _ _ _ _ _ => (de_meth PySem.F.plainAttrs_list PySem.F.slot_list_count PySem.F.type_list_count meth_countI (dr (dv 1)) (da_cons (dv 3) da_nil))) (by decide)))))) dss_nil))
abbrev N_l_grown : List Str := ["_law_cell", "_law_past", "_law_view", "_law_wide", "_law_stretch", "_law_grows", "_law_deep", "_law_n", "_law_kind", "_law_fields", "_law_lists", "_law_j", "_law_i", "_law_many", "_law_fit", "_law_one", "_law_other", "_law_pairs"]
theorem sc_l_grown : FnScope N_l_grown ["_law_cell", "_law_past"] (defScope s_l_grown) := ⟨rfl, rfl, rfl, by decide +kernel, rfl, by decide +kernel, by decide +kernel⟩
theorem ok_l_grown {P : Program} {w : World} {K : PySem.W.Frag} {mg : Str → Option Value} {base : Heap} {f : Addr} {fd : FuncData} (T : Txt K mg) (F : Fun K "_law_grown" "_law_grown" s_l_grown f fd) (c_l_mix : CallOk P w K mg base 4 "_law_mix" ["_law_cell", "_law_k"] F_l_mix) (c_l_term : CallOk P w K mg base 4 "_law_term" ["_law_cell", "_law_k", "_law_width"] F_l_term) (c_l_made_pairs : CallOk P w K mg base 4 "_law_made_pairs" ["_law_cell", "_law_wide"] F_l_made_pairs) (c_l_most : CallOk P w K mg base 4 "_law_most" ["_law_pairs"] F_l_most) :
    FnOk P w K mg base (L2.CX P w) 5 f fd ["_law_cell", "_law_past"] (spM K mg 2 [1] F_l_grown) :=
  fnM (N := N_l_grown) (bs := [1]) (k := 4) (fb := b_l_grown) F sc_l_grown (by decide) fun cdv A outer s H G B E hp0 hr tk hp =>
    by have hu := Room.hu hr; exact (dss_cons (ds_asg (al := []) (de_ix (dr_var (i := 1) rfl (by first | exact .inl rfl | exact .inr (.inl rfl) | exact .inr (.inr rfl))) (dr (de_neg de_int)) (fun _ _ => rfl)) (dg_tup rfl (dgs_cons (dg_name (i := 2) sc_l_grown.nd rfl (by first | exact .inl rfl | exact .inr rfl)) (dgs_cons (dg_name (i := 3) sc_l_grown.nd rfl (by first | exact .inl rfl | exact .inr rfl)) (dgs_cons (dg_name (i := 4) sc_l_grown.nd rfl (by first | exact .inl rfl | exact .inr rfl)) (dgs_cons (dg_name (i := 5) sc_l_grown.nd rfl (by first | exact .inl rfl | exact .inr rfl)) (dgs_cons (dg_name (i := 6) sc_l_grown.nd rfl (by first | exact .inl rfl | exact .inr rfl)) dgs_nil))))) rfl)) (dss_cons (ds_set (al := []) (i := 7) sc_l_grown.nd rfl (by first | exact .inl rfl | exact .inr rfl) (de_callE c_l_mix hr rfl tk (da_cons (dv 0) (da_cons de_int da_nil)) (leq_cons (leq_cons leq_nil)))) (dss_cons (ds_set (al := []) (i := 8) sc_l_grown.nd rfl (by first | exact .inl rfl | exact .inr rfl) (de_bin od_mod (dr (dv 7)) (dr de_int))) (dss_cons (ds_set (al := []) (i := 7) sc_l_grown.nd rfl (by first | exact .inl rfl | exact .inr rfl) (de_bin od_div (dr (dv 7)) (dr de_int))) (dss_cons (ds_if (al := []) (dt_cmp (od_lt hu) (dr (dv 8)) (dr de_int) (nomark _)) (dss_cons (ds_retM (al := []) (de_tup (da_cons (de_tup (da_cons de_str (da_cons (de_callE c_l_term hr rfl tk (da_cons (dv 0) (da_cons de_int (da_cons (dv 3) da_nil))) (leq_cons (leq_cons (leq_cons leq_nil)))) (da_cons (dv 2) da_nil))) (len_cons (len_cons (len_cons len_nil))) (szl (by decide))) (da_cons (dv 3) (da_cons (dv 4) (da_cons (dv 5) (da_cons (de_bin od_add (dr (dv 6)) (dr de_int)) da_nil))))) (len_cons (len_cons (len_cons (len_cons (len_cons len_nil))))) (szl (by decide)))) dss_nil) dss_nil) (dss_cons (ds_if (al := []) (dt_cmp (od_eq hu) (dr (dv 8)) (dr de_int) (nomark _)) (dss_cons (ds_set (al := []) (i := 9) sc_l_grown.nd rfl (by first | exact .inl rfl | exact .inr rfl) (de_bin od_add (dr de_int) (dr (de_bin od_mod (dr (de_bin od_div (dr (dv 7)) (dr de_int))) (dr de_int))))) (dss_cons (ds_setF (al := []) (i := 10) sc_l_grown.nd rfl (by first | exact .inl rfl | exact .inr rfl) (df_lst da_nil len_nil (szl (by decide))) (hpin := hp0 _ (by decide))) (dss_cons (ds_for (al := []) hp rfl (di_range1 rfl T.z_range (de_bin od_add (dr de_int) (dr (de_bin od_mod (dr (dv 7)) (dr de_int))))) (dg_name (i := 11) sc_l_grown.nd rfl (by first | exact .inl rfl | exact .inr rfl)) (fun _ => (dss_cons (ds_mut (al := []) (i := 10) PySem.F.slot_list_append PySem.F.type_list_append mut_append rfl (by first | exact .inl rfl | exact .inr (.inl rfl) | exact .inr (.inr rfl)) (da_cons (de_t1 c1_tuple rfl T.z_tuple rfl (dr (de_of (df_comp (own := [("_law_i", 12)]) rfl sc_l_grown.nd (dir_of (di_range1 rfl T.z_range (dv 9))) (blkOk_by (N := N_l_grown) (sc := defScope s_l_grown) (by decide +kernel)) (fun _ _ _ _ _ => (dg_name (i := 12) sc_l_grown.nd rfl (by first | exact .inl rfl | exact .inr rfl))) (fun _ _ _ _ _ => dts_nil) (fun _ _ _ _ _ => (de_callE c_l_term hr rfl takes0 (da_cons (de_bin od_add (dr (dv 0)) (dr (de_bin od_mul (dr (dv 11)) (dr (dv 11))))) (da_cons (de_bin od_add (dr de_int) (dr (de_bin od_mul (dr de_int) (dr (dv 12))))) (da_cons (dv 3) da_nil))) (leq_cons (leq_cons (leq_cons leq_nil))))) (by decide))))) da_nil)) dss_nil))) (dss_cons (ds_retM (al := []) (de_tup (da_cons (de_tup (da_cons de_str (da_cons (de_t1 c1_tuple rfl T.z_tuple rfl (dr_var (i := 10) rfl (by first | exact .inl rfl | exact .inr (.inl rfl) | exact .inr (.inr rfl)))) (da_cons (dv 2) da_nil))) (len_cons (len_cons (len_cons len_nil))) (szl (by decide))) (da_cons (dv 9) (da_cons (de_bin od_mul (dr (dv 4)) (dr (de_b1 c1_len rfl T.z_len rfl (dr_var (i := 10) rfl (by first | exact .inl rfl | exact .inr (.inl rfl) | exact .inr (.inr rfl)))))) (da_cons (dv 5) (da_cons (de_bin od_add (dr (dv 6)) (dr de_int)) da_nil))))) (len_cons (len_cons (len_cons (len_cons (len_cons len_nil))))) (szl (by decide)))) dss_nil)))) dss_nil) (dss_cons (ds_if (al := []) (dt_cmp (od_eq hu) (dr (dv 8)) (dr de_int) (nomark _)) (dss_cons (ds_retM (al := []) (de_tup (da_cons (de_tup (da_cons de_str (da_cons (dv 2) da_nil)) (len_cons (len_cons len_nil)) (szl (by decide))) (da_cons (dv 3) (da_cons (dv 4) (da_cons (dv 5) (da_cons (de_bin od_add (dr (dv 6)) (dr de_int)) da_nil))))) (len_cons (len_cons (len_cons (len_cons (len_cons len_nil))))) (szl (by decide)))) dss_nil) dss_nil) (dss_cons (ds_if (al := []) (dt_cmp (od_eq hu) (dr (dv 8)) (dr de_int) (nomark _)) (dss_cons (ds_set (al := []) (i := 13) sc_l_grown.nd rfl (by first | exact .inl rfl | exact .inr rfl) (de_ixA hr.hu1 (dr (de_of (df_lst (da_cons de_int (da_cons de_int (da_cons de_int (da_cons de_int (da_cons (de_bin od_add (dr de_int) (dr (de_bin od_mod (dr (de_bin od_div (dr (dv 7)) (dr de_int))) (dr de_int)))) da_nil))))) (len_cons (len_cons (len_cons (len_cons (len_cons len_nil))))) (szl (by decide))))) (de_bin od_mod (dr (dv 7)) (dr de_int)) (fun _ _ => rfl) (fun _ _ => rfl))) (dss_cons (ds_retM (al := []) (de_tup (da_cons (de_tup (da_cons de_str (da_cons (de_callE c_l_term hr rfl tk (da_cons (dv 0) (da_cons de_int (da_cons (dv 3) da_nil))) (leq_cons (leq_cons (leq_cons leq_nil)))) (da_cons (dv 13) (da_cons (dv 2) da_nil)))) (len_cons (len_cons (len_cons (len_cons len_nil)))) (szl (by decide))) (da_cons (dv 3) (da_cons (de_bin od_mul (dr (dv 4)) (dr de_int)) (da_cons de_bl (da_cons (de_bin od_add (dr (dv 6)) (dr de_int)) da_nil))))) (len_cons (len_cons (len_cons (len_cons (len_cons len_nil))))) (szl (by decide)))) dss_nil)) dss_nil) (dss_cons (ds_if (al := []) (dt_cmp (od_eq hu) (dr (dv 8)) (dr de_int) (nomark _)) (dss_cons (ds_comp (al := []) (i := 14) (own := [("_law_one", 15)]) false rfl sc_l_grown.nd rfl rfl (sw_true rfl rfl rfl (by decide +kernel)) (dir_seq (dr_var (i := 1) rfl (by first | exact .inl rfl | exact .inr (.inl rfl) | exact .inr (.inr rfl)))) (blkOk_by (N := N_l_grown) (sc := defScope s_l_grown) (by decide +kernel)) (fun _ _ _ _ _ => (dg_name (i := 15) sc_l_grown.nd rfl (by first | exact .inl rfl | exact .inr rfl))) (fun _ _ _ _ _ => (dts_one (dt_cmp (od_eq hu) (dr (de_ix (dr (dv 15)) (dr de_int) (fun _ _ => rfl))) (dr (dv 3)) (nomark _)))) (fun _ _ _ _ _ => (dv 15)) (by decide) (hpin := hp0 _ (by decide))) (dss_cons (ds_set (al := []) (i := 16) sc_l_grown.nd rfl (by first | exact .inl rfl | exact .inr rfl) (de_ixA hr.hu1 (dr (dv 14)) (de_bin od_mod (dr (dv 7)) (dr (de_b1 c1_len rfl T.z_len rfl (dr (dv 14))))) (fun _ _ => rfl) (fun _ _ => rfl))) (dss_cons (ds_retM (al := []) (de_tup (da_cons (de_tup (da_cons de_str (da_cons (dv 2) (da_cons (de_ix (dr (dv 16)) (dr de_int) (fun _ _ => rfl)) da_nil))) (len_cons (len_cons (len_cons len_nil))) (szl (by decide))) (da_cons (dv 3) (da_cons (de_bin od_add (dr (dv 4)) (dr (de_ix (dr (dv 16)) (dr de_int) (fun _ _ => rfl)))) (da_cons (de_and (dv 5) (de_one (de_ix (dr (dv 16)) (dr de_int) (fun _ _ => rfl)))) (da_cons (de_bin od_add (dr de_int) (dr (de_b2 (c2_max rfl) rfl T.z_max rfl (dr (dv 6)) (dr (de_ix (dr (dv 16)) (dr de_int) (fun _ _ => rfl)))))) da_nil))))) (len_cons (len_cons (len_cons (len_cons (len_cons len_nil))))) (szl (by decide)))) dss_nil))) dss_nil) (dss_cons (ds_set (al := []) (i := 17) sc_l_grown.nd rfl (by first | exact .inl rfl | exact .inr rfl) (de_callE c_l_made_pairs hr rfl tk (da_cons (dv 0) (da_cons (dv 3) da_nil)) (leq_cons (leq_cons leq_nil)))) (dss_cons (ds_if (al := []) (dt_cmp (od_gt hu) (dr (de_b1 c1_len rfl T.z_len rfl (dr (dv 17)))) (dr de_int) (nomark _)) (dss_cons (ds_set (al := []) (i := 3) sc_l_grown.nd rfl (by first | exact .inl rfl | exact .inr rfl) (de_bin od_add (dr (dv 3)) (dr (de_b1 c1_len rfl T.z_len rfl (dr (de_ix (dr (de_ix (dr (dv 17)) (dr de_int) (fun _ _ => rfl))) (dr de_int) (fun _ _ => rfl))))))) dss_nil) dss_nil) (dss_cons (ds_set (al := []) (i := 2) sc_l_grown.nd rfl (by first | exact .inl rfl | exact .inr rfl) (de_tup (da_cons de_str (da_cons (dv 17) (da_cons (de_callE c_l_term hr rfl tk (da_cons (dv 0) (da_cons de_int (da_cons (de_ix (dr (de_ix (dr_var (i := 1) rfl (by first | exact .inl rfl | exact .inr (.inl rfl) | exact .inr (.inr rfl))) (dr (de_neg de_int)) (fun _ _ => rfl))) (dr de_int) (fun _ _ => rfl)) da_nil))) (leq_cons (leq_cons (leq_cons leq_nil)))) (da_cons (dv 2) da_nil)))) (len_cons (len_cons (len_cons (len_cons len_nil)))) (szl (by decide)))) (dss_cons (ds_retM (al := []) (de_tup (da_cons (dv 2) (da_cons (dv 3) (da_cons (de_bin od_mul (dr (dv 4)) (dr (de_callE c_l_most hr rfl tk (da_cons (dv 17) da_nil) (leq_cons leq_nil)))) (da_cons (dv 5) (da_cons (de_bin od_add (dr (dv 6)) (dr de_int)) da_nil))))) (len_cons (len_cons (len_cons (len_cons (len_cons len_nil))))) (szl (by decide)))) dss_nil)))))))))))))
abbrev N_l_views : List Str := ["_law_cells", "_law_width", "_law_past", "_law_cell", "_law_made"]
theorem sc_l_views : FnScope N_l_views ["_law_cells", "_law_width"] (defScope s_l_views) := ⟨rfl, rfl, rfl, by decide +kernel, rfl, by decide +kernel, by decide +kernel⟩
theorem ok_l_views {P : Program} {w : World} {K : PySem.W.Frag} {mg : Str → Option Value} {base : Heap} {f : Addr} {fd : FuncData} (T : Txt K mg) (F : Fun K "_law_views" "_law_views" s_l_views f fd) (c_l_grown : CallOkM P w K mg base 5 "_law_grown" ["_law_cell", "_law_past"] [1] F_l_grown) :
    FnOk P w K mg base (L2.CX P w) 6 f fd ["_law_cells", "_law_width"] (spD K mg 2 F_l_views) :=
  fnD (N := N_l_views) (k := 5) (fb := b_l_views) F sc_l_views fun cdv A outer s H G E hr tk hp =>
    by have hu := Room.hu hr; exact (dss_cons (ds_setF (al := []) (i := 2) sc_l_views.nd rfl (by first | exact .inl rfl | exact .inr rfl) (df_lst (da_cons (de_tup (da_cons (de_tup (da_cons de_str da_nil) (len_cons len_nil) (szl (by decide))) (da_cons (dv 1) (da_cons de_int (da_cons de_bl (da_cons de_int da_nil))))) (len_cons (len_cons (len_cons (len_cons (len_cons len_nil))))) (szl (by decide))) da_nil) (len_cons len_nil) (szl (by decide)))) (dss_cons (ds_for (al := []) hp rfl (di_seq (dv 0)) (dg_name (i := 3) sc_l_views.nd rfl (by first | exact .inl rfl | exact .inr rfl)) (fun _ => (dss_cons (ds_setM (al := []) (i := 4) sc_l_views.nd rfl (by first | exact .inl rfl | exact .inr rfl) c_l_grown hr rfl tk (dm_val (dv 3) (dm_lent (i := 2) rfl (by first | exact .inl rfl | exact .inr (.inl rfl) | exact .inr (.inr rfl)) dm_nil)) (mlen_val (mlen_lent mlen_nil))) (dss_cons (ds_if (al := []) (dt_w (dw_and (dt_cmp (od_le hu) (dr (de_ix (dr (dv 4)) (dr de_int) (fun _ _ => rfl))) (dr de_int) (nomark _)) (dw_and1 (dt_cmp (od_le hu) (dr (de_ix (dr (dv 4)) (dr de_int) (fun _ _ => rfl))) (dr de_int) (nomark _))))) (dss_cons (ds_mut (al := []) (i := 2) PySem.F.slot_list_append PySem.F.type_list_append mut_append rfl (by first | exact .inl rfl | exact .inr (.inl rfl) | exact .inr (.inr rfl)) (da_cons (dv 4) da_nil)) dss_nil) dss_nil) dss_nil)))) (dss_cons (ds_ret (al := [2]) (de_var (i := 2) rfl (by first | exact .inl rfl | exact .inr (.inl rfl) | exact .inr (.inr rfl)) (by decide))) dss_nil)))
abbrev N_inner_views : List Str := ["view"]
theorem sc_inner_views : FnScope N_inner_views ["view"] (defScope s_inner_views) := ⟨rfl, rfl, rfl, by decide +kernel, rfl, by decide +kernel, by decide +kernel⟩
theorem ok_inner_views {P : Program} {w : World} {K : PySem.W.Frag} {mg : Str → Option Value} {base : Heap} {f : Addr} {fd : FuncData} (T : Txt K mg) (F : Fun K "inner_views" "inner_views" s_inner_views f fd)  :
    FnOk P w K mg base (L2.CX P w) 1 f fd ["view"] (spD K mg 1 F_inner_views) :=
  fnD (N := N_inner_views) (k := 0) (fb := b_inner_views) F sc_inner_views fun cdv A outer s H G E hr tk hp =>
    by have hu := Room.hu hr; exact (dss_cons (ds_if (al := []) (dt_cmp (od_eq hu) (dr (de_ix (dr (dv 0)) (dr de_int) (fun _ _ => rfl))) (dr de_str) (nomark _)) (dss_cons (ds_ret (al := []) (de_of (df_lst da_nil len_nil (szl (by decide))))) dss_nil) dss_nil) (dss_cons (ds_if (al := []) (dt_cmp (od_eq hu) (dr (de_ix (dr (dv 0)) (dr de_int) (fun _ _ => rfl))) (dr de_str) (nomark _)) (dss_cons (ds_ret (al := []) (de_of (df_lst (da_cons (de_ix (dr (dv 0)) (dr de_int) (fun _ _ => rfl)) (da_cons (de_ix (dr (dv 0)) (dr de_int) (fun _ _ => rfl)) da_nil)) (len_cons (len_cons len_nil)) (szl (by decide))))) dss_nil) dss_nil) (dss_cons (ds_ret (al := []) (de_of (df_lst (da_cons (de_ix (dr (dv 0)) (dr (de_neg de_int)) (fun _ _ => rfl)) da_nil) (len_cons len_nil) (szl (by decide))))) dss_nil)))
abbrev N_all_alike : List Str := ["numbers"]
theorem sc_all_alike : FnScope N_all_alike ["numbers"] (defScope s_all_alike) := ⟨rfl, rfl, rfl, by decide +kernel, rfl, by decide +kernel, by decide +kernel⟩
theorem ok_all_alike {P : Program} {w : World} {K : PySem.W.Frag} {mg : Str → Option Value} {base : Heap} {f : Addr} {fd : FuncData} (T : Txt K mg) (F : Fun K "all_alike" "all_alike" s_all_alike f fd)  :
    FnOk P w K mg base (L2.CX P w) 1 f fd ["numbers"] (spD K mg 1 F_all_alike) :=
  fnD (N := N_all_alike) (k := 0) (fb := b_all_alike) F sc_all_alike fun cdv A outer s H G E hr tk hp =>
    by have hu := Room.hu hr; exact (dss_cons (ds_ret (al := []) (de_cmp (od_le hu) (dr (de_lenSet rfl rfl T.z_len rfl T.z_set (dr (dv 0)))) (dr de_int) (nomark _))) dss_nil)
abbrev N_own_terms : List Str := ["view", "kind", "terms", "some"]
theorem sc_own_terms : FnScope N_own_terms ["view"] (defScope s_own_terms) := ⟨rfl, rfl, rfl, by decide +kernel, rfl, by decide +kernel, by decide +kernel⟩
theorem ok_own_terms {P : Program} {w : World} {K : PySem.W.Frag} {mg : Str → Option Value} {base : Heap} {f : Addr} {fd : FuncData} (T : Txt K mg) (F : Fun K "own_terms" "own_terms" s_own_terms f fd)  :
    FnOk P w K mg base (L2.CX P w) 1 f fd ["view"] (spD K mg 1 F_own_terms) :=
  fnD (N := N_own_terms) (k := 0) (fb := b_own_terms) F sc_own_terms fun cdv A outer s H G E hr tk hp =>
    by have hu := Room.hu hr; exact (dss_cons (ds_set (al := []) (i := 1) sc_own_terms.nd rfl (by first | exact .inl rfl | exact .inr rfl) (de_ix (dr (dv 0)) (dr de_int) (fun _ _ => rfl))) (dss_cons (ds_if (al := []) (dt_w (dw_or (dt_cmp (od_eq hu) (dr (dv 1)) (dr de_str) (nomark _)) (dw_or1 (dt_cmp (od_eq hu) (dr (dv 1)) (dr de_str) (nomark _))))) (dss_cons (ds_ret (al := []) (de_of (df_lst (da_cons (de_ix (dr (dv 0)) (dr de_int) (fun _ _ => rfl)) da_nil) (len_cons len_nil) (szl (by decide))))) dss_nil) dss_nil) (dss_cons (ds_if (al := []) (dt_cmp (od_eq hu) (dr (dv 1)) (dr de_str) (nomark _)) (dss_cons (ds_ret (al := []) (de_of (df_lst (da_cons (de_ix (dr (dv 0)) (dr de_int) (fun _ _ => rfl)) da_nil) (len_cons len_nil) (szl (by decide))))) dss_nil) dss_nil) (dss_cons (ds_setF (al := []) (i := 2) sc_own_terms.nd rfl (by first | exact .inl rfl | exact .inr rfl) (df_lst da_nil len_nil (szl (by decide)))) (dss_cons (ds_if (al := []) (dt_cmp (od_eq hu) (dr (dv 1)) (dr de_str) (nomark _)) (dss_cons (ds_for (al := []) hp rfl (di_seq (de_ix (dr (dv 0)) (dr de_int) (fun _ _ => rfl))) (dg_name (i := 3) sc_own_terms.nd rfl (by first | exact .inl rfl | exact .inr rfl)) (fun _ => (dss_cons (ds_mut (al := []) (i := 2) PySem.F.slot_list_extend PySem.F.type_list_extend mut_extend rfl (by first | exact .inl rfl | exact .inr (.inl rfl) | exact .inr (.inr rfl)) (da_cons (dv 3) da_nil)) dss_nil))) dss_nil) dss_nil) (dss_cons (ds_ret (al := [2]) (de_var (i := 2) rfl (by first | exact .inl rfl | exact .inr (.inl rfl) | exact .inr (.inr rfl)) (by decide))) dss_nil))))))
abbrev N_is_leaf : List Str := ["term"]
theorem sc_is_leaf : FnScope N_is_leaf ["term"] (defScope s_is_leaf) := ⟨rfl, rfl, rfl, by decide +kernel, rfl, by decide +kernel, by decide +kernel⟩
theorem ok_is_leaf {P : Program} {w : World} {K : PySem.W.Frag} {mg : Str → Option Value} {base : Heap} {f : Addr} {fd : FuncData} (T : Txt K mg) (F : Fun K "is_leaf" "is_leaf" s_is_leaf f fd)  :
    FnOk P w K mg base (L2.CX P w) 1 f fd ["term"] (spD K mg 1 F_is_leaf) :=
  fnD (N := N_is_leaf) (k := 0) (fb := b_is_leaf) F sc_is_leaf fun cdv A outer s H G E hr tk hp =>
    by have hu := Room.hu hr; exact (dss_cons (ds_ret (al := []) (de_or (de_cmp (od_eq hu) (dr (de_ix (dr (dv 0)) (dr de_int) (fun _ _ => rfl))) (dr de_str) (nomark _)) (de_or (de_cmp (od_eq hu) (dr (de_ix (dr (dv 0)) (dr de_int) (fun _ _ => rfl))) (dr de_str) (nomark _)) (de_one (de_cmp (od_eq hu) (dr (de_ix (dr (dv 0)) (dr de_int) (fun _ _ => rfl))) (dr de_str) (nomark _)))))) dss_nil)
abbrev N_gathered : List Str := ["term", "kind", "found", "part"]
theorem sc_gathered : FnScope N_gathered ["term", "kind"] (defScope s_gathered) := ⟨rfl, rfl, rfl, by decide +kernel, rfl, by decide +kernel, by decide +kernel⟩
theorem ok_gathered {P : Program} {w : World} {K : PySem.W.Frag} {mg : Str → Option Value} {base : Heap} {f : Addr} {fd : FuncData} {k : Nat} {G : List D → Res D} (T : Txt K mg) (F : Fun K "gathered" "gathered" s_gathered f fd) (c_is_leaf : CallOk P w K mg base k "is_leaf" ["term"] F_is_leaf) (c_gathered : CallOk P w K mg base k "gathered" ["term", "kind"] G) :
    FnOk P w K mg base (L2.CX P w) (k + 1) f fd ["term", "kind"] (spD K mg 2 (runDef 2 4 (b_gathered G))) :=
  fnD (N := N_gathered) (k := k) (fb := b_gathered G) F sc_gathered fun cdv A outer s H _ E hr tk hp =>
    by have hu := Room.hu hr; exact (dss_cons (ds_if (al := []) (dt_truth (dr (de_callE c_is_leaf hr rfl tk (da_cons (dv 0) da_nil) (leq_cons leq_nil))) (fun _ => rfl)) (dss_cons (ds_if (al := []) (dt_cmp (od_eq hu) (dr (de_ix (dr (dv 0)) (dr de_int) (fun _ _ => rfl))) (dr (dv 1)) (nomark _)) (dss_cons (ds_ret (al := []) (de_of (df_lst (da_cons (de_ix (dr (dv 0)) (dr de_int) (fun _ _ => rfl)) da_nil) (len_cons len_nil) (szl (by decide))))) dss_nil) dss_nil) (dss_cons (ds_ret (al := []) (de_of (df_lst da_nil len_nil (szl (by decide))))) dss_nil)) dss_nil) (dss_cons (ds_setF (al := []) (i := 2) sc_gathered.nd rfl (by first | exact .inl rfl | exact .inr rfl) (df_lst da_nil len_nil (szl (by decide)))) (dss_cons (ds_for (al := []) hp rfl (di_seq (de_cut (dr (dv 0)) (do_some de_int) do_none)) (dg_name (i := 3) sc_gathered.nd rfl (by first | exact .inl rfl | exact .inr rfl)) (fun _ => (dss_cons (ds_mut (al := []) (i := 2) PySem.F.slot_list_extend PySem.F.type_list_extend mut_extend rfl (by first | exact .inl rfl | exact .inr (.inl rfl) | exact .inr (.inr rfl)) (da_cons (de_callE c_gathered hr rfl tk (da_cons (dv 3) (da_cons (dv 1) da_nil)) (leq_cons (leq_cons leq_nil))) da_nil)) dss_nil))) (dss_cons (ds_ret (al := [2]) (de_var (i := 2) rfl (by first | exact .inl rfl | exact .inr (.inl rfl) | exact .inr (.inr rfl)) (by decide))) dss_nil))))
abbrev N_fields_in : List Str := ["term"]
theorem sc_fields_in : FnScope N_fields_in ["term"] (defScope s_fields_in) := ⟨rfl, rfl, rfl, by decide +kernel, rfl, by decide +kernel, by decide +kernel⟩
theorem ok_fields_in {P : Program} {w : World} {K : PySem.W.Frag} {mg : Str → Option Value} {base : Heap} {f : Addr} {fd : FuncData} (T : Txt K mg) (F : Fun K "fields_in" "fields_in" s_fields_in f fd) (c_gathered : CallOk P w K mg base 13 "gathered" ["term", "kind"] F_gathered) :
    FnOk P w K mg base (L2.CX P w) 14 f fd ["term"] (spD K mg 1 F_fields_in) :=
  fnD (N := N_fields_in) (k := 13) (fb := b_fields_in) F sc_fields_in fun cdv A outer s H G E hr tk hp =>
    by have hu := Room.hu hr; exact (dss_cons (ds_ret (al := []) (de_of (df_sortSet rfl (hu) rfl T.z_sorted rfl T.z_set (dr (de_callE c_gathered hr rfl tk (da_cons (dv 0) (da_cons de_str da_nil)) (leq_cons (leq_cons leq_nil))))))) dss_nil)
abbrev N_width_made : List Str := ["view", "width", "wides", "some", "pair"]
theorem sc_width_made : FnScope N_width_made ["view", "width"] (defScope s_width_made) := ⟨rfl, rfl, rfl, by decide +kernel, rfl, by decide +kernel, by decide +kernel⟩
theorem ok_width_made {P : Program} {w : World} {K : PySem.W.Frag} {mg : Str → Option Value} {base : Heap} {f : Addr} {fd : FuncData} (T : Txt K mg) (F : Fun K "width_made" "width_made" s_width_made f fd) (c_all_alike : CallOk P w K mg base 1 "all_alike" ["numbers"] F_all_alike) :
    FnOk P w K mg base (L2.CX P w) 2 f fd ["view", "width"] (spD K mg 2 F_width_made) :=
  fnD (N := N_width_made) (k := 1) (fb := b_width_made) F sc_width_made fun cdv A outer s H G E hr tk hp =>
    by have hu := Room.hu hr; exact (dss_cons (ds_if (al := []) (dt_cmp (od_eq hu) (dr (de_ix (dr (dv 0)) (dr de_int) (fun _ _ => rfl))) (dr de_str) (nomark _)) (dss_cons (ds_comp (al := []) (i := 2) (own := [("some", 3)]) false rfl sc_width_made.nd rfl rfl (sw_true rfl rfl rfl (by decide +kernel)) (dir_of (di_seq (de_ix (dr (dv 0)) (dr de_int) (fun _ _ => rfl)))) (blkOk_by (N := N_width_made) (sc := defScope s_width_made) (by decide +kernel)) (fun _ _ _ _ _ => (dg_name (i := 3) sc_width_made.nd rfl (by first | exact .inl rfl | exact .inr rfl))) (fun _ _ _ _ _ => dts_nil) (fun _ _ _ _ _ => (de_b1 c1_len rfl T.z_len rfl (dr (dv 3)))) (by decide)) (dss_cons (ds_if (al := []) (dt_not (dt_truth (dr (de_callE c_all_alike hr rfl tk (da_cons (dv 2) da_nil) (leq_cons leq_nil))) (fun _ => rfl))) (dss_cons (ds_ret (al := []) de_non) dss_nil) dss_nil) (dss_cons (ds_ret (al := []) (de_ix (dr (dv 2)) (dr de_int) (fun _ _ => rfl))) dss_nil))) dss_nil) (dss_cons (ds_comp (al := []) (i := 2) (own := [("pair", 4)]) false rfl sc_width_made.nd rfl rfl (sw_true rfl rfl rfl (by decide +kernel)) (dir_of (di_seq (de_ix (dr (dv 0)) (dr de_int) (fun _ _ => rfl)))) (blkOk_by (N := N_width_made) (sc := defScope s_width_made) (by decide +kernel)) (fun _ _ _ _ _ => (dg_name (i := 4) sc_width_made.nd rfl (by first | exact .inl rfl | exact .inr rfl))) (fun _ _ _ _ _ => dts_nil) (fun _ _ _ _ _ => (de_b1 c1_len rfl T.z_len rfl (dr (de_ix (dr (dv 4)) (dr de_int) (fun _ _ => rfl))))) (by decide)) (dss_cons (ds_if (al := []) (dt_not (dt_truth (dr (de_callE c_all_alike hr rfl tk (da_cons (dv 2) da_nil) (leq_cons leq_nil))) (fun _ => rfl))) (dss_cons (ds_ret (al := []) de_non) dss_nil) dss_nil) (dss_cons (ds_if (al := []) (dt_cmp (od_gt hu) (dr (de_b1 c1_len rfl T.z_len rfl (dr (dv 2)))) (dr de_int) (nomark _)) (dss_cons (ds_set (al := []) (i := 1) sc_width_made.nd rfl (by first | exact .inl rfl | exact .inr rfl) (de_bin od_add (dr (dv 1)) (dr (de_ix (dr (dv 2)) (dr de_int) (fun _ _ => rfl))))) dss_nil) dss_nil) (dss_cons (ds_if (al := []) (dt_cmp (od_gt hu) (dr (dv 1)) (dr (de_con T.c_MOST_FIELDS rfl)) (nomark _)) (dss_cons (ds_ret (al := []) de_non) dss_nil) dss_nil) (dss_cons (ds_ret (al := []) (dv 1)) dss_nil))))))
abbrev N_width_of : List Str := ["view", "width", "inner", "one", "term", "fields"]
theorem sc_width_of : FnScope N_width_of ["view", "width"] (defScope s_width_of) := ⟨rfl, rfl, rfl, by decide +kernel, rfl, by decide +kernel, by decide +kernel⟩
theorem ok_width_of {P : Program} {w : World} {K : PySem.W.Frag} {mg : Str → Option Value} {base : Heap} {f : Addr} {fd : FuncData} {k : Nat} {G : List D → Res D} (T : Txt K mg) (F : Fun K "width_of" "width_of" s_width_of f fd) (c_inner_views : CallOk P w K mg base k "inner_views" ["view"] F_inner_views) (c_width_of : CallOk P w K mg base k "width_of" ["view", "width"] G) (c_all_alike : CallOk P w K mg base k "all_alike" ["numbers"] F_all_alike) (c_own_terms : CallOk P w K mg base k "own_terms" ["view"] F_own_terms) (c_fields_in : CallOk P w K mg base k "fields_in" ["term"] F_fields_in) (c_width_made : CallOk P w K mg base k "width_made" ["view", "width"] F_width_made) :
    FnOk P w K mg base (L2.CX P w) (k + 1) f fd ["view", "width"] (spD K mg 2 (runDef 2 6 (b_width_of G))) :=
  fnD (N := N_width_of) (k := k) (fb := b_width_of G) F sc_width_of fun cdv A outer s H _ E hr tk hp =>
    by have hu := Room.hu hr; exact (dss_cons (ds_if (al := []) (dt_cmp (od_eq hu) (dr (de_ix (dr (dv 0)) (dr de_int) (fun _ _ => rfl))) (dr de_str) (nomark _)) (dss_cons (ds_ret (al := []) (dv 1)) dss_nil) dss_nil) (dss_cons (ds_comp (al := []) (i := 2) (own := [("one", 3)]) false rfl sc_width_of.nd rfl rfl (sw_true rfl rfl rfl (by decide +kernel)) (dir_of (di_seq (de_callE c_inner_views hr rfl tk (da_cons (dv 0) da_nil) (leq_cons leq_nil)))) (blkOk_by (N := N_width_of) (sc := defScope s_width_of) (by decide +kernel)) (fun _ _ _ _ _ => (dg_name (i := 3) sc_width_of.nd rfl (by first | exact .inl rfl | exact .inr rfl))) (fun _ _ _ _ _ => dts_nil) (fun _ _ _ _ _ => (de_callE c_width_of hr rfl takes0 (da_cons (dv 3) (da_cons (dv 1) da_nil)) (leq_cons (leq_cons leq_nil)))) (by decide)) (dss_cons (ds_if (al := []) (dt_w (dw_or (dt_inA hr.hu65 de_non (dr (dv 2))) (dw_or1 (dt_not (dt_truth (dr (de_callE c_all_alike hr rfl tk (da_cons (dv 2) da_nil) (leq_cons leq_nil))) (fun _ => rfl)))))) (dss_cons (ds_ret (al := []) de_non) dss_nil) dss_nil) (dss_cons (ds_for (al := []) hp rfl (di_seq (de_callE c_own_terms hr rfl tk (da_cons (dv 0) da_nil) (leq_cons leq_nil))) (dg_name (i := 4) sc_width_of.nd rfl (by first | exact .inl rfl | exact .inr rfl)) (fun _ => (dss_cons (ds_set (al := []) (i := 5) sc_width_of.nd rfl (by first | exact .inl rfl | exact .inr rfl) (de_callE c_fields_in hr rfl tk (da_cons (dv 4) da_nil) (leq_cons leq_nil))) (dss_cons (ds_if (al := []) (dt_w (dw_and (dt_cmp (od_gt hu) (dr (de_b1 c1_len rfl T.z_len rfl (dr (dv 5)))) (dr de_int) (nomark _)) (dw_and1 (dt_cmp (od_ge hu) (dr (de_ix (dr (dv 5)) (dr (de_neg de_int)) (fun _ _ => rfl))) (dr (de_ix (dr (dv 2)) (dr de_int) (fun _ _ => rfl))) (nomark _))))) (dss_cons (ds_ret (al := []) de_non) dss_nil) dss_nil) dss_nil)))) (dss_cons (ds_if (al := []) (dt_w (dw_or (dt_cmp (od_eq hu) (dr (de_ix (dr (dv 0)) (dr de_int) (fun _ _ => rfl))) (dr de_str) (nomark _)) (dw_or1 (dt_cmp (od_eq hu) (dr (de_ix (dr (dv 0)) (dr de_int) (fun _ _ => rfl))) (dr de_str) (nomark _))))) (dss_cons (ds_ret (al := []) (de_callE c_width_made hr rfl tk (da_cons (dv 0) (da_cons (de_ix (dr (dv 2)) (dr de_int) (fun _ _ => rfl)) da_nil)) (leq_cons (leq_cons leq_nil)))) dss_nil) dss_nil) (dss_cons (ds_ret (al := []) (de_ix (dr (dv 2)) (dr de_int) (fun _ _ => rfl))) dss_nil))))))
abbrev N_l_whole : List Str := ["_law_found"]
theorem sc_l_whole : FnScope N_l_whole ["_law_found"] (defScope s_l_whole) := ⟨rfl, rfl, rfl, by decide +kernel, rfl, by decide +kernel, by decide +kernel⟩
theorem ok_l_whole {P : Program} {w : World} {K : PySem.W.Frag} {mg : Str → Option Value} {base : Heap} {f : Addr} {fd : FuncData} (T : Txt K mg) (F : Fun K "_law_whole" "_law_whole" s_l_whole f fd)  :
    FnOk P w K mg base (L2.CX P w) 1 f fd ["_law_found"] (spD K mg 1 F_l_whole) :=
  fnD (N := N_l_whole) (k := 0) (fb := b_l_whole) F sc_l_whole fun cdv A outer s H G E hr tk hp =>
    by exact (dss_cons (ds_ret (al := []) (de_and (de_isi is_int rfl T.z_isinstance rfl (dr (dv 0)) rfl T.z_int rfl) (de_one (de_not (de_isi is_bool rfl T.z_isinstance rfl (dr (dv 0)) rfl T.z_bool rfl))))) dss_nil)
abbrev N_view_depth : List Str := ["view", "one"]
theorem sc_view_depth : FnScope N_view_depth ["view"] (defScope s_view_depth) := ⟨rfl, rfl, rfl, by decide +kernel, rfl, by decide +kernel, by decide +kernel⟩
theorem ok_view_depth {P : Program} {w : World} {K : PySem.W.Frag} {mg : Str → Option Value} {base : Heap} {f : Addr} {fd : FuncData} {k : Nat} {G : List D → Res D} (T : Txt K mg) (F : Fun K "view_depth" "view_depth" s_view_depth f fd) (c_inner_views : CallOk P w K mg base k "inner_views" ["view"] F_inner_views) (c_view_depth : CallOk P w K mg base k "view_depth" ["view"] G) :
    FnOk P w K mg base (L2.CX P w) (k + 1) f fd ["view"] (spD K mg 1 (runDef 1 2 (b_view_depth G))) :=
  fnD (N := N_view_depth) (k := k) (fb := b_view_depth G) F sc_view_depth fun cdv A outer s H _ E hr tk hp =>
    by have hu := Room.hu hr; exact (dss_cons (ds_ret (al := []) (de_bin od_add (dr de_int) (dr (de_maxDef rfl (hu) rfl T.z_max (dr (de_of (df_comp (own := [("one", 1)]) rfl sc_view_depth.nd (dir_of (di_seq (de_callE c_inner_views hr rfl tk (da_cons (dv 0) da_nil) (leq_cons leq_nil)))) (blkOk_by (N := N_view_depth) (sc := defScope s_view_depth) (by decide +kernel)) (fun _ _ _ _ _ => (dg_name (i := 1) sc_view_depth.nd rfl (by first | exact .inl rfl | exact .inr rfl))) (fun _ _ _ _ _ => dts_nil) (fun _ _ _ _ _ => (de_callE c_view_depth hr rfl takes0 (da_cons (dv 1) da_nil) (leq_cons leq_nil))) (by decide)))))))) dss_nil)
abbrev N_l_terms : List Str := ["_law_view", "_law_some", "_law_terms_here"]
theorem sc_l_terms : FnScope N_l_terms ["_law_view"] (defScope s_l_terms) := ⟨rfl, rfl, rfl, by decide +kernel, rfl, by decide +kernel, by decide +kernel⟩
theorem ok_l_terms {P : Program} {w : World} {K : PySem.W.Frag} {mg : Str → Option Value} {base : Heap} {f : Addr} {fd : FuncData} {k : Nat} {G : List D → Res D} (T : Txt K mg) (F : Fun K "_law_terms" "_law_terms" s_l_terms f fd) (c_l_terms : CallOk P w K mg base k "_law_terms" ["_law_view"] G) :
    FnOk P w K mg base (L2.CX P w) (k + 1) f fd ["_law_view"] (spD K mg 1 (runDef 1 3 (b_l_terms G))) :=
  fnD (N := N_l_terms) (k := k) (fb := b_l_terms G) F sc_l_terms fun cdv A outer s H _ E hr tk hp =>
    by have hu := Room.hu hr; exact (dss_cons (ds_if (al := []) (dt_cmp (od_eq hu) (dr (de_ix (dr (dv 0)) (dr de_int) (fun _ _ => rfl))) (dr de_str) (nomark _)) (dss_cons (ds_ret (al := []) (de_of (df_lst da_nil len_nil (szl (by decide))))) dss_nil) dss_nil) (dss_cons (ds_if (al := []) (dt_cmp (od_eq hu) (dr (de_ix (dr (dv 0)) (dr de_int) (fun _ _ => rfl))) (dr de_str) (nomark _)) (dss_cons (ds_ret (al := []) (de_bin od_add (dr (de_callE c_l_terms hr rfl tk (da_cons (de_ix (dr (dv 0)) (dr de_int) (fun _ _ => rfl)) da_nil) (leq_cons leq_nil))) (dr (de_callE c_l_terms hr rfl tk (da_cons (de_ix (dr (dv 0)) (dr de_int) (fun _ _ => rfl)) da_nil) (leq_cons leq_nil))))) dss_nil) dss_nil) (dss_cons (ds_set (al := []) (i := 1) sc_l_terms.nd rfl (by first | exact .inl rfl | exact .inr rfl) (de_of (df_lst da_nil len_nil (szl (by decide))))) (dss_cons (ds_if (al := []) (dt_w (dw_or (dt_cmp (od_eq hu) (dr (de_ix (dr (dv 0)) (dr de_int) (fun _ _ => rfl))) (dr de_str) (nomark _)) (dw_or1 (dt_cmp (od_eq hu) (dr (de_ix (dr (dv 0)) (dr de_int) (fun _ _ => rfl))) (dr de_str) (nomark _))))) (dss_cons (ds_set (al := []) (i := 1) sc_l_terms.nd rfl (by first | exact .inl rfl | exact .inr rfl) (de_of (df_lst (da_cons (de_ix (dr (dv 0)) (dr de_int) (fun _ _ => rfl)) da_nil) (len_cons len_nil) (szl (by decide))))) dss_nil) dss_nil) (dss_cons (ds_if (al := []) (dt_cmp (od_eq hu) (dr (de_ix (dr (dv 0)) (dr de_int) (fun _ _ => rfl))) (dr de_str) (nomark _)) (dss_cons (ds_set (al := []) (i := 1) sc_l_terms.nd rfl (by first | exact .inl rfl | exact .inr rfl) (de_of (df_lst (da_cons (de_ix (dr (dv 0)) (dr de_int) (fun _ _ => rfl)) da_nil) (len_cons len_nil) (szl (by decide))))) dss_nil) dss_nil) (dss_cons (ds_if (al := []) (dt_cmp (od_eq hu) (dr (de_ix (dr (dv 0)) (dr de_int) (fun _ _ => rfl))) (dr de_str) (nomark _)) (dss_cons (ds_for (al := []) hp rfl (di_seq (de_ix (dr (dv 0)) (dr de_int) (fun _ _ => rfl))) (dg_name (i := 2) sc_l_terms.nd rfl (by first | exact .inl rfl | exact .inr rfl)) (fun _ => (dss_cons (ds_set (al := []) (i := 1) sc_l_terms.nd rfl (by first | exact .inl rfl | exact .inr rfl) (de_bin od_add (dr (dv 1)) (dr (de_of (df_t1 c1_list rfl T.z_list rfl (dr (dv 2))))))) dss_nil))) dss_nil) dss_nil) (dss_cons (ds_ret (al := []) (de_bin od_add (dr (dv 1)) (dr (de_callE c_l_terms hr rfl tk (da_cons (de_ix (dr (dv 0)) (dr (de_neg de_int)) (fun _ _ => rfl)) da_nil) (leq_cons leq_nil))))) dss_nil)))))))
abbrev N_names_in : List Str := ["term"]
theorem sc_names_in : FnScope N_names_in ["term"] (defScope s_names_in) := ⟨rfl, rfl, rfl, by decide +kernel, rfl, by decide +kernel, by decide +kernel⟩
theorem ok_names_in {P : Program} {w : World} {K : PySem.W.Frag} {mg : Str → Option Value} {base : Heap} {f : Addr} {fd : FuncData} (T : Txt K mg) (F : Fun K "names_in" "names_in" s_names_in f fd) (c_gathered : CallOk P w K mg base 13 "gathered" ["term", "kind"] F_gathered) :
    FnOk P w K mg base (L2.CX P w) 14 f fd ["term"] (spD K mg 1 F_names_in) :=
  fnD (N := N_names_in) (k := 13) (fb := b_names_in) F sc_names_in fun cdv A outer s H G E hr tk hp =>
    by have hu := Room.hu hr; exact (dss_cons (ds_ret (al := []) (de_of (df_sortSet rfl (hu) rfl T.z_sorted rfl T.z_set (dr (de_callE c_gathered hr rfl tk (da_cons (dv 0) (da_cons de_str da_nil)) (leq_cons (leq_cons leq_nil))))))) dss_nil)
abbrev N_view_names : List Str := ["view", "found", "term", "name", "one"]
theorem sc_view_names : FnScope N_view_names ["view"] (defScope s_view_names) := ⟨rfl, rfl, rfl, by decide +kernel, rfl, by decide +kernel, by decide +kernel⟩
theorem ok_view_names {P : Program} {w : World} {K : PySem.W.Frag} {mg : Str → Option Value} {base : Heap} {f : Addr} {fd : FuncData} {k : Nat} {G : List D → Res D} (T : Txt K mg) (F : Fun K "view_names" "view_names" s_view_names f fd) (c_own_terms : CallOk P w K mg base k "own_terms" ["view"] F_own_terms) (c_names_in : CallOk P w K mg base k "names_in" ["term"] F_names_in) (c_inner_views : CallOk P w K mg base k "inner_views" ["view"] F_inner_views) (c_view_names : CallOk P w K mg base k "view_names" ["view"] G) :
    FnOk P w K mg base (L2.CX P w) (k + 1) f fd ["view"] (spD K mg 1 (runDef 1 5 (b_view_names G))) :=
  fnD (N := N_view_names) (k := k) (fb := b_view_names G) F sc_view_names fun cdv A outer s H _ E hr tk hp =>
    by have hu := Room.hu hr; exact (dss_cons (ds_setF (al := []) (i := 1) sc_view_names.nd rfl (by first | exact .inl rfl | exact .inr rfl) df_dnewK) (dss_cons (ds_for (al := []) hp rfl (di_seq (de_callE c_own_terms hr rfl tk (da_cons (dv 0) da_nil) (leq_cons leq_nil))) (dg_name (i := 2) sc_view_names.nd rfl (by first | exact .inl rfl | exact .inr rfl)) (fun _ => (dss_cons (ds_for (al := []) hp rfl (di_seq (de_callE c_names_in hr rfl tk (da_cons (dv 2) da_nil) (leq_cons leq_nil))) (dg_name (i := 3) sc_view_names.nd rfl (by first | exact .inl rfl | exact .inr rfl)) (fun _ => (dss_cons (ds_putD (al := []) (i := 1) hr.hu1 rfl (by first | exact .inl rfl | exact .inr (.inl rfl) | exact .inr (.inr rfl)) (dv 3) de_bl) dss_nil))) dss_nil))) (dss_cons (ds_for (al := []) hp rfl (di_seq (de_callE c_inner_views hr rfl tk (da_cons (dv 0) da_nil) (leq_cons leq_nil))) (dg_name (i := 4) sc_view_names.nd rfl (by first | exact .inl rfl | exact .inr rfl)) (fun _ => (dss_cons (ds_for (al := []) hp rfl (di_seq (de_callE c_view_names hr rfl tk (da_cons (dv 4) da_nil) (leq_cons leq_nil))) (dg_name (i := 3) sc_view_names.nd rfl (by first | exact .inl rfl | exact .inr rfl)) (fun _ => (dss_cons (ds_putD (al := []) (i := 1) hr.hu1 rfl (by first | exact .inl rfl | exact .inr (.inl rfl) | exact .inr (.inr rfl)) (dv 3) de_bl) dss_nil))) dss_nil))) (dss_cons (ds_ret (al := []) (de_of (df_b1 (c1_sorted rfl hu) rfl T.z_sorted rfl (dr_var (i := 1) rfl (by first | exact .inl rfl | exact .inr (.inl rfl) | exact .inr (.inr rfl)))))) dss_nil))))
abbrev N_l_told : List Str := ["_law_view", "_law_wide", "_law_deep", "_law_found", "_law_due", "_law_term_here", "_law_name"]
theorem sc_l_told : FnScope N_l_told ["_law_view", "_law_wide", "_law_deep"] (defScope s_l_told) := ⟨rfl, rfl, rfl, by decide +kernel, rfl, by decide +kernel, by decide +kernel⟩
theorem ok_l_told {P : Program} {w : World} {K : PySem.W.Frag} {mg : Str → Option Value} {base : Heap} {f : Addr} {fd : FuncData} (T : Txt K mg) (F : Fun K "_law_told" "_law_told" s_l_told f fd) (c_width_of : CallOk P w K mg base 26 "width_of" ["view", "width"] F_width_of) (c_l_whole : CallOk P w K mg base 26 "_law_whole" ["_law_found"] F_l_whole) (c_view_depth : CallOk P w K mg base 26 "view_depth" ["view"] F_view_depth) (c_l_terms : CallOk P w K mg base 26 "_law_terms" ["_law_view"] F_l_terms) (c_names_in : CallOk P w K mg base 26 "names_in" ["term"] F_names_in) (c_view_names : CallOk P w K mg base 26 "view_names" ["view"] F_view_names) :
    FnOk P w K mg base (L2.CX P w) 27 f fd ["_law_view", "_law_wide", "_law_deep"] (spD K mg 3 F_l_told) :=
  fnD (N := N_l_told) (k := 26) (fb := b_l_told) F sc_l_told fun cdv A outer s H G E hr tk hp =>
    by have hu := Room.hu hr; exact (dss_cons (ds_set (al := []) (i := 3) sc_l_told.nd rfl (by first | exact .inl rfl | exact .inr rfl) (de_callE c_width_of hr rfl tk (da_cons (de_ix (dr (dv 0)) (dr de_int) (fun _ _ => rfl)) (da_cons (de_ix (dr (dv 0)) (dr de_int) (fun _ _ => rfl)) da_nil)) (leq_cons (leq_cons leq_nil)))) (dss_cons (ds_if (al := []) (dt_w (dw_or (dt_w (dw_and (dt_cmp od_is (dr (dv 1)) (dr de_non) (nomark _)) (dw_and1 (dt_cmp od_isNot (dr (dv 3)) (dr de_non) (nomark _))))) (dw_or1 (dt_w (dw_and (dt_cmp od_isNot (dr (dv 1)) (dr de_non) (nomark _)) (dw_and1 (dt_w (dw_or (dt_not (dt_truth (dr (de_callE c_l_whole hr rfl tk (da_cons (dv 3) da_nil) (leq_cons leq_nil))) (fun _ => rfl))) (dw_or1 (dt_cmp (od_ne hu) (dr (dv 3)) (dr (dv 1)) (nomark _))))))))))) (dss_cons (ds_ret (al := []) de_bl) dss_nil) dss_nil) (dss_cons (ds_if (al := []) (dt_w (dw_or (dt_not (dt_truth (dr (de_callE c_l_whole hr rfl tk (da_cons (de_callE c_view_depth hr rfl tk (da_cons (de_ix (dr (dv 0)) (dr de_int) (fun _ _ => rfl)) da_nil) (leq_cons leq_nil)) da_nil) (leq_cons leq_nil))) (fun _ => rfl))) (dw_or1 (dt_cmp (od_ne hu) (dr (de_callE c_view_depth hr rfl tk (da_cons (de_ix (dr (dv 0)) (dr de_int) (fun _ _ => rfl)) da_nil) (leq_cons leq_nil))) (dr (dv 2)) (nomark _))))) (dss_cons (ds_ret (al := []) de_bl) dss_nil) dss_nil) (dss_cons (ds_setF (al := []) (i := 4) sc_l_told.nd rfl (by first | exact .inl rfl | exact .inr rfl) df_dnewK) (dss_cons (ds_for (al := []) hp rfl (di_seq (de_callE c_l_terms hr rfl tk (da_cons (de_ix (dr (dv 0)) (dr de_int) (fun _ _ => rfl)) da_nil) (leq_cons leq_nil))) (dg_name (i := 5) sc_l_told.nd rfl (by first | exact .inl rfl | exact .inr rfl)) (fun _ => (dss_cons (ds_for (al := []) hp rfl (di_seq (de_callE c_names_in hr rfl tk (da_cons (dv 5) da_nil) (leq_cons leq_nil))) (dg_name (i := 6) sc_l_told.nd rfl (by first | exact .inl rfl | exact .inr rfl)) (fun _ => (dss_cons (ds_putD (al := []) (i := 4) hr.hu1 rfl (by first | exact .inl rfl | exact .inr (.inl rfl) | exact .inr (.inr rfl)) (dv 6) de_bl) dss_nil))) dss_nil))) (dss_cons (ds_set (al := []) (i := 3) sc_l_told.nd rfl (by first | exact .inl rfl | exact .inr rfl) (de_callE c_view_names hr rfl tk (da_cons (de_ix (dr (dv 0)) (dr de_int) (fun _ _ => rfl)) da_nil) (leq_cons leq_nil))) (dss_cons (ds_ret (al := []) (de_and (de_isi is_list rfl T.z_isinstance rfl (dr (dv 3)) rfl T.z_list rfl) (de_one (de_cmp (od_eq hu) (dr (dv 3)) (dr (de_of (df_b1 (c1_sorted rfl hu) rfl T.z_sorted rfl (dr_var (i := 4) rfl (by first | exact .inl rfl | exact .inr (.inl rfl) | exact .inr (.inr rfl)))))) (nomark _))))) dss_nil)))))))
abbrev N_l_bad : List Str := ["_law_view", "_law_wide", "_law_n", "_law_far", "_law_some"]
theorem sc_l_bad : FnScope N_l_bad ["_law_view", "_law_wide", "_law_n"] (defScope s_l_bad) := ⟨rfl, rfl, rfl, by decide +kernel, rfl, by decide +kernel, by decide +kernel⟩
theorem ok_l_bad {P : Program} {w : World} {K : PySem.W.Frag} {mg : Str → Option Value} {base : Heap} {f : Addr} {fd : FuncData} (T : Txt K mg) (F : Fun K "_law_bad" "_law_bad" s_l_bad f fd)  :
    FnOk P w K mg base (L2.CX P w) 1 f fd ["_law_view", "_law_wide", "_law_n"] (spD K mg 3 F_l_bad) :=
  fnD (N := N_l_bad) (k := 0) (fb := b_l_bad) F sc_l_bad fun cdv A outer s H G E hr tk hp =>
    by exact (dss_cons (ds_set (al := []) (i := 3) sc_l_bad.nd rfl (by first | exact .inl rfl | exact .inr rfl) (de_tup (da_cons de_str (da_cons (de_bin od_add (dr (dv 1)) (dr (de_bin od_mod (dr (de_bin od_div (dr (dv 2)) (dr de_int))) (dr de_int)))) da_nil)) (len_cons (len_cons len_nil)) (szl (by decide)))) (dss_cons (ds_setF (al := []) (i := 4) sc_l_bad.nd rfl (by first | exact .inl rfl | exact .inr rfl) (df_lst (da_cons (de_tup (da_cons de_str (da_cons (de_tup (da_cons de_str (da_cons (de_tup (da_cons de_str (da_cons de_int da_nil)) (len_cons (len_cons len_nil)) (szl (by decide))) (da_cons (dv 3) da_nil))) (len_cons (len_cons (len_cons len_nil))) (szl (by decide))) (da_cons (dv 0) da_nil))) (len_cons (len_cons (len_cons len_nil))) (szl (by decide))) (da_cons (de_tup (da_cons de_str (da_cons (dv 3) (da_cons de_int (da_cons (dv 0) da_nil)))) (len_cons (len_cons (len_cons (len_cons len_nil)))) (szl (by decide))) (da_cons (de_tup (da_cons de_str (da_cons (de_tup da_nil len_nil (by decide)) (da_cons (dv 3) (da_cons (dv 0) da_nil)))) (len_cons (len_cons (len_cons (len_cons len_nil)))) (szl (by decide))) da_nil))) (len_cons (len_cons (len_cons len_nil))) (szl (by decide)))) (dss_cons (ds_mut (al := []) (i := 4) PySem.F.slot_list_append PySem.F.type_list_append mut_append rfl (by first | exact .inl rfl | exact .inr (.inl rfl) | exact .inr (.inr rfl)) (da_cons (de_tup (da_cons de_str (da_cons (de_tup (da_cons (de_tup (da_cons (de_tup (da_cons de_str (da_cons de_int da_nil)) (len_cons (len_cons len_nil)) (szl (by decide))) da_nil) (len_cons len_nil) (szl (by decide))) (da_cons (de_tup (da_cons (de_tup (da_cons de_str (da_cons (dv 3) da_nil)) (len_cons (len_cons len_nil)) (szl (by decide))) da_nil) (len_cons len_nil) (szl (by decide))) da_nil)) (len_cons (len_cons len_nil)) (szl (by decide))) (da_cons (dv 0) da_nil))) (len_cons (len_cons (len_cons len_nil))) (szl (by decide))) da_nil)) (dss_cons (ds_mut (al := []) (i := 4) PySem.F.slot_list_append PySem.F.type_list_append mut_append rfl (by first | exact .inl rfl | exact .inr (.inl rfl) | exact .inr (.inr rfl)) (da_cons (de_tup (da_cons de_str (da_cons (de_tup (da_cons (de_tup (da_cons (de_tup (da_cons de_str (da_cons de_int da_nil)) (len_cons (len_cons len_nil)) (szl (by decide))) da_nil) (len_cons len_nil) (szl (by decide))) (da_cons (de_tup (da_cons (de_tup (da_cons de_str (da_cons de_int da_nil)) (len_cons (len_cons len_nil)) (szl (by decide))) (da_cons (de_tup (da_cons de_str (da_cons de_int da_nil)) (len_cons (len_cons len_nil)) (szl (by decide))) da_nil)) (len_cons (len_cons len_nil)) (szl (by decide))) da_nil)) (len_cons (len_cons len_nil)) (szl (by decide))) (da_cons (dv 0) da_nil))) (len_cons (len_cons (len_cons len_nil))) (szl (by decide))) da_nil)) (dss_cons (ds_mut (al := []) (i := 4) PySem.F.slot_list_append PySem.F.type_list_append mut_append rfl (by first | exact .inl rfl | exact .inr (.inl rfl) | exact .inr (.inr rfl)) (da_cons (de_tup (da_cons de_str (da_cons (de_tup (da_cons (de_tup (da_cons de_int (da_cons (de_tup (da_cons de_int da_nil) (len_cons len_nil) (szl (by decide))) da_nil)) (len_cons (len_cons len_nil)) (szl (by decide))) (da_cons (de_tup (da_cons de_int (da_cons (de_tup (da_cons de_int (da_cons de_int da_nil)) (len_cons (len_cons len_nil)) (szl (by decide))) da_nil)) (len_cons (len_cons len_nil)) (szl (by decide))) (da_cons (de_tup (da_cons de_int (da_cons (de_tup (da_cons de_int da_nil) (len_cons len_nil) (szl (by decide))) da_nil)) (len_cons (len_cons len_nil)) (szl (by decide))) da_nil))) (len_cons (len_cons (len_cons len_nil))) (szl (by decide))) (da_cons (de_tup (da_cons de_str (da_cons de_int da_nil)) (len_cons (len_cons len_nil)) (szl (by decide))) (da_cons (dv 0) da_nil)))) (len_cons (len_cons (len_cons (len_cons len_nil)))) (szl (by decide))) da_nil)) (dss_cons (ds_mut (al := []) (i := 4) PySem.F.slot_list_append PySem.F.type_list_append mut_append rfl (by first | exact .inl rfl | exact .inr (.inl rfl) | exact .inr (.inr rfl)) (da_cons (de_tup (da_cons de_str (da_cons (de_tup (da_cons (de_tup (da_cons de_int (da_cons (de_bin od_repT (dr (de_tup (da_cons de_int da_nil) (len_cons len_nil) (szl (by decide)))) (dr (de_bin od_sub (dr de_int) (dr (dv 1))))) da_nil)) (len_cons (len_cons len_nil)) (szl (by decide))) da_nil) (len_cons len_nil) (szl (by decide))) (da_cons (de_tup (da_cons de_str (da_cons de_int da_nil)) (len_cons (len_cons len_nil)) (szl (by decide))) (da_cons (dv 0) da_nil)))) (len_cons (len_cons (len_cons (len_cons len_nil)))) (szl (by decide))) da_nil)) (dss_cons (ds_mut (al := []) (i := 4) PySem.F.slot_list_append PySem.F.type_list_append mut_append rfl (by first | exact .inl rfl | exact .inr (.inl rfl) | exact .inr (.inr rfl)) (da_cons (de_tup (da_cons de_str (da_cons (dv 0) (da_cons (de_tup (da_cons de_str (da_cons (de_tup (da_cons (de_bin od_repT (dr (de_tup (da_cons (de_tup (da_cons de_str (da_cons de_int da_nil)) (len_cons (len_cons len_nil)) (szl (by decide))) da_nil) (len_cons len_nil) (szl (by decide)))) (dr (de_bin od_add (dr de_int) (dr (de_bin od_mod (dr (dv 1)) (dr de_int)))))) da_nil) (len_cons len_nil) (szl (by decide))) (da_cons (dv 0) da_nil))) (len_cons (len_cons (len_cons len_nil))) (szl (by decide))) da_nil))) (len_cons (len_cons (len_cons len_nil))) (szl (by decide))) da_nil)) (dss_cons (ds_ret (al := []) (de_ixA hr.hu1 (dr_var (i := 4) rfl (by first | exact .inl rfl | exact .inr (.inl rfl) | exact .inr (.inr rfl))) (de_bin od_mod (dr (dv 2)) (dr de_int)) (fun _ _ => rfl) (fun _ _ => rfl))) dss_nil))))))))
abbrev N_law : List Str := ["_law_script", "_law_width", "_law_k", "_law_view", "_law_wide", "_law_stretch", "_law_grows", "_law_deep", "_law_n", "_law_bad_here", "_law_deeper"]
theorem sc_law : FnScope N_law ["_law_script"] (defScope s_law) := ⟨rfl, rfl, rfl, by decide +kernel, rfl, by decide +kernel, by decide +kernel⟩
theorem ok_law {P : Program} {w : World} {K : PySem.W.Frag} {mg : Str → Option Value} {base : Heap} {f : Addr} {fd : FuncData} (T : Txt K mg) (F : Fun K "law" "law" s_law f fd) (c_l_cell_at : CallOk P w K mg base 27 "_law_cell_at" ["_law_script", "_law_k"] F_l_cell_at) (c_l_views : CallOk P w K mg base 27 "_law_views" ["_law_cells", "_law_width"] F_l_views) (c_l_told : CallOk P w K mg base 27 "_law_told" ["_law_view", "_law_wide", "_law_deep"] F_l_told) (c_l_mix : CallOk P w K mg base 27 "_law_mix" ["_law_cell", "_law_k"] F_l_mix) (c_l_bad : CallOk P w K mg base 27 "_law_bad" ["_law_view", "_law_wide", "_law_n"] F_l_bad) :
    FnOk P w K mg base (L2.CX P w) 28 f fd ["_law_script"] (spD K mg 1 F_law) :=
  fnD (N := N_law) (k := 27) (fb := b_law) F sc_law fun cdv A outer s H G E hr tk hp =>
    by have hu := Room.hu hr; exact (dss_cons (ds_set (al := []) (i := 1) sc_law.nd rfl (by first | exact .inl rfl | exact .inr rfl) (de_bin od_add (dr de_int) (dr (de_bin od_mod (dr (de_callE c_l_cell_at hr rfl tk (da_cons (dv 0) (da_cons de_int da_nil)) (leq_cons (leq_cons leq_nil)))) (dr de_int))))) (dss_cons (ds_for (al := []) hp rfl (di_range3 rfl T.z_range de_int (de_b2 (c2_max rfl) rfl T.z_max rfl (dr de_int) (dr (de_b1 c1_len rfl T.z_len rfl (dr (dv 0))))) de_int) (dg_name (i := 2) sc_law.nd rfl (by first | exact .inl rfl | exact .inr rfl)) (fun _ => (dss_cons (ds_for (al := []) hp rfl (di_seq (de_callE c_l_views hr rfl tk (da_cons (de_cut (dr (dv 0)) (do_some (dv 2)) (do_some (de_bin od_add (dr (dv 2)) (dr de_int)))) (da_cons (dv 1) da_nil)) (leq_cons (leq_cons leq_nil)))) (dg_tup rfl (dgs_cons (dg_name (i := 3) sc_law.nd rfl (by first | exact .inl rfl | exact .inr rfl)) (dgs_cons (dg_name (i := 4) sc_law.nd rfl (by first | exact .inl rfl | exact .inr rfl)) (dgs_cons (dg_name (i := 5) sc_law.nd rfl (by first | exact .inl rfl | exact .inr rfl)) (dgs_cons (dg_name (i := 6) sc_law.nd rfl (by first | exact .inl rfl | exact .inr rfl)) (dgs_cons (dg_name (i := 7) sc_law.nd rfl (by first | exact .inl rfl | exact .inr rfl)) dgs_nil))))) rfl) (fun _ => (dss_cons (ds_if (al := []) (dt_not (dt_truth (dr (de_callE c_l_told hr rfl tk (da_cons (de_tup (da_cons (dv 3) (da_cons (dv 1) da_nil)) (len_cons (len_cons len_nil)) (szl (by decide))) (da_cons (dv 4) (da_cons (dv 7) da_nil))) (leq_cons (leq_cons (leq_cons leq_nil))))) (fun _ => rfl))) (dss_cons (ds_ret (al := []) de_bl) dss_nil) dss_nil) (dss_cons (ds_set (al := []) (i := 8) sc_law.nd rfl (by first | exact .inl rfl | exact .inr rfl) (de_callE c_l_mix hr rfl tk (da_cons (de_bin od_add (dr (de_callE c_l_cell_at hr rfl tk (da_cons (dv 0) (da_cons (dv 2) da_nil)) (leq_cons (leq_cons leq_nil)))) (dr (dv 7))) (da_cons de_int da_nil)) (leq_cons (leq_cons leq_nil)))) (dss_cons (ds_set (al := []) (i := 9) sc_law.nd rfl (by first | exact .inl rfl | exact .inr rfl) (de_callE c_l_bad hr rfl tk (da_cons (dv 3) (da_cons (dv 4) (da_cons (dv 8) da_nil))) (leq_cons (leq_cons (leq_cons leq_nil))))) (dss_cons (ds_set (al := []) (i := 10) sc_law.nd rfl (by first | exact .inl rfl | exact .inr rfl) (de_bin od_add (dr (de_bin od_add (dr (dv 7)) (dr de_int))) (dr (de_t1 c1_int rfl T.z_int rfl (dr (de_cmp (od_eq hu) (dr (de_ix (dr (dv 9)) (dr de_int) (fun _ _ => rfl))) (dr de_str) (nomark _))))))) (dss_cons (ds_if (al := []) (dt_cmp (od_gt hu) (dr (dv 10)) (dr de_int) (nomark _)) (dss_cons ds_cont dss_nil) dss_nil) (dss_cons (ds_if (al := []) (dt_not (dt_truth (dr (de_callE c_l_told hr rfl tk (da_cons (de_tup (da_cons (dv 9) (da_cons (dv 1) da_nil)) (len_cons (len_cons len_nil)) (szl (by decide))) (da_cons de_non (da_cons (dv 10) da_nil))) (leq_cons (leq_cons (leq_cons leq_nil))))) (fun _ => rfl))) (dss_cons (ds_ret (al := []) de_bl) dss_nil) dss_nil) (dss_cons (ds_if (al := []) (dt_not (dt_truth (dr (de_callE c_l_told hr rfl tk (da_cons (de_tup (da_cons (de_tup (da_cons de_str (da_cons (dv 9) da_nil)) (len_cons (len_cons len_nil)) (szl (by decide))) (da_cons (dv 1) da_nil)) (len_cons (len_cons len_nil)) (szl (by decide))) (da_cons de_non (da_cons (de_bin od_add (dr (dv 10)) (dr de_int)) da_nil))) (leq_cons (leq_cons (leq_cons leq_nil))))) (fun _ => rfl))) (dss_cons (ds_ret (al := []) de_bl) dss_nil) dss_nil) dss_nil))))))))) dss_nil))) (dss_cons (ds_ret (al := []) de_bl) dss_nil)))
end DLaw
namespace DLaw
open PySem PySem.Spec PyProof.Rows L2
open DL
theorem all_mk {P : Program} {w : World} {K : PySem.W.Frag} {h : Heap} {mg : Str → Option Value} {fa : Addr} (X : K.In h) (G : h.Ns mainGlobals mg) (hfa : mg "law" = some (.ref fa))
    {f1 f2 f3 f4 f5 f6 f7 f8 f9 f10 f11 f12 f13 f14 f15 f16 f17 f18 f19 f20 f21 f22 f23 f24 f25 : Addr} {od1 an1 od2 an2 od3 an3 od4 an4 od5 an5 od6 an6 od7 an7 od8 an8 od9 an9 od10 an10 od11 an11 od12 an12 od13 an13 od14 an14 od15 an15 od16 an16 od17 an17 od18 an18 od19 an19 od20 an20 od21 an21 od22 an22 od23 an23 od24 an24 od25 an25 : Option Addr} {sl1 sl2 sl3 sl4 sl5 sl6 sl7 sl8 sl9 sl10 sl11 sl12 sl13 sl14 sl15 sl16 sl17 sl18 sl19 sl20 sl21 sl22 sl23 sl24 sl25 : Array (Option Value)} {oc1 kV1 dc1 pm1 cd1 ct1 oc2 kV2 dc2 pm2 cd2 ct2 oc3 kV3 dc3 pm3 cd3 ct3 oc4 kV4 dc4 pm4 cd4 ct4 oc5 kV5 dc5 pm5 cd5 ct5 oc6 kV6 dc6 pm6 cd6 ct6 oc7 kV7 dc7 pm7 cd7 ct7 oc8 kV8 dc8 pm8 cd8 ct8 oc9 kV9 dc9 pm9 cd9 ct9 oc10 kV10 dc10 pm10 cd10 ct10 oc11 kV11 dc11 pm11 cd11 ct11 oc12 kV12 dc12 pm12 cd12 ct12 oc13 kV13 dc13 pm13 cd13 ct13 oc14 kV14 dc14 pm14 cd14 ct14 oc15 kV15 dc15 pm15 cd15 ct15 oc16 kV16 dc16 pm16 cd16 ct16 oc17 kV17 dc17 pm17 cd17 ct17 oc18 kV18 dc18 pm18 cd18 ct18 oc19 kV19 dc19 pm19 cd19 ct19 oc20 kV20 dc20 pm20 cd20 ct20 oc21 kV21 dc21 pm21 cd21 ct21 oc22 kV22 dc22 pm22 cd22 ct22 oc23 kV23 dc23 pm23 cd23 ct23 oc24 kV24 dc24 pm24 cd24 ct24 oc25 kV25 dc25 pm25 cd25 ct25 : Value}
   {tk1 : Tok}
    (a1 : PySem.W.nsIn K mainGlobals "_law_cell_at" = some (some (.ref f1))) (l1 : K.lookup f1 = some ⟨oc1, od1, .func (PySem.W.fnOf "_law_cell_at" "_law_cell_at" (defArgs s_l_cell_at) (defBody s_l_cell_at) (defScope s_l_cell_at) .none kV1 dc1 pm1 an1 cd1 ct1), sl1⟩) (c1 : PySem.W.codeIn K cd1 "_law_cell_at" = true) (k1 : PySem.W.keepIn K (.ref f1) = true)
    (a2 : PySem.W.nsIn K mainGlobals "_law_mix" = some (some (.ref f2))) (l2 : K.lookup f2 = some ⟨oc2, od2, .func (PySem.W.fnOf "_law_mix" "_law_mix" (defArgs s_l_mix) (defBody s_l_mix) (defScope s_l_mix) .none kV2 dc2 pm2 an2 cd2 ct2), sl2⟩) (c2 : PySem.W.codeIn K cd2 "_law_mix" = true) (k2 : PySem.W.keepIn K (.ref f2) = true)
    (a3 : PySem.W.nsIn K mainGlobals "_law_number" = some (some (.ref f3))) (l3 : K.lookup f3 = some ⟨oc3, od3, .func (PySem.W.fnOf "_law_number" "_law_number" (defArgs s_l_number) (defBody s_l_number) (defScope s_l_number) .none kV3 dc3 pm3 an3 cd3 ct3), sl3⟩) (c3 : PySem.W.codeIn K cd3 "_law_number" = true) (k3 : PySem.W.keepIn K (.ref f3) = true)
    (a4 : PySem.W.nsIn K mainGlobals "_law_leaf" = some (some (.ref f4))) (l4 : K.lookup f4 = some ⟨oc4, od4, .func (PySem.W.fnOf "_law_leaf" "_law_leaf" (defArgs s_l_leaf) (defBody s_l_leaf) (defScope s_l_leaf) .none kV4 dc4 pm4 an4 cd4 ct4), sl4⟩) (c4 : PySem.W.codeIn K cd4 "_law_leaf" = true) (k4 : PySem.W.keepIn K (.ref f4) = true)
    (a5 : PySem.W.nsIn K mainGlobals "_law_term" = some (some (.ref f5))) (l5 : K.lookup f5 = some ⟨oc5, od5, .func (PySem.W.fnOf "_law_term" "_law_term" (defArgs s_l_term) (defBody s_l_term) (defScope s_l_term) .none kV5 dc5 pm5 an5 cd5 ct5), sl5⟩) (c5 : PySem.W.codeIn K cd5 "_law_term" = true) (k5 : PySem.W.keepIn K (.ref f5) = true)
    (a6 : PySem.W.nsIn K mainGlobals "_law_made_pairs" = some (some (.ref f6))) (l6 : K.lookup f6 = some ⟨oc6, od6, .func (PySem.W.fnOf "_law_made_pairs" "_law_made_pairs" (defArgs s_l_made_pairs) (defBody s_l_made_pairs) (defScope s_l_made_pairs) .none kV6 dc6 pm6 an6 cd6 ct6), sl6⟩) (c6 : PySem.W.codeIn K cd6 "_law_made_pairs" = true) (k6 : PySem.W.keepIn K (.ref f6) = true)
    (a7 : PySem.W.nsIn K mainGlobals "_law_most" = some (some (.ref f7))) (l7 : K.lookup f7 = some ⟨oc7, od7, .func (PySem.W.fnOf "_law_most" "_law_most" (defArgs s_l_most) (defBody s_l_most) (defScope s_l_most) .none kV7 dc7 pm7 an7 cd7 ct7), sl7⟩) (c7 : PySem.W.codeIn K cd7 "_law_most" = true) (k7 : PySem.W.keepIn K (.ref f7) = true)
    (a8 : PySem.W.nsIn K mainGlobals "_law_grown" = some (some (.ref f8))) (l8 : K.lookup f8 = some ⟨oc8, od8, .func (PySem.W.fnOf "_law_grown" "_law_grown" (defArgs s_l_grown) (defBody s_l_grown) (defScope s_l_grown) .none kV8 dc8 pm8 an8 cd8 ct8), sl8⟩) (c8 : PySem.W.codeIn K cd8 "_law_grown" = true) (k8 : PySem.W.keepIn K (.ref f8) = true)
    (a9 : PySem.W.nsIn K mainGlobals "_law_views" = some (some (.ref f9))) (l9 : K.lookup f9 = some ⟨oc9, od9, .func (PySem.W.fnOf "_law_views" "_law_views" (defArgs s_l_views) (defBody s_l_views) (defScope s_l_views) .none kV9 dc9 pm9 an9 cd9 ct9), sl9⟩) (c9 : PySem.W.codeIn K cd9 "_law_views" = true) (k9 : PySem.W.keepIn K (.ref f9) = true)
    (a10 : PySem.W.nsIn K mainGlobals "inner_views" = some (some (.ref f10))) (l10 : K.lookup f10 = some ⟨oc10, od10, .func (PySem.W.fnOf "inner_views" "inner_views" (defArgs s_inner_views) (defBody s_inner_views) (defScope s_inner_views) .none kV10 dc10 pm10 an10 cd10 ct10), sl10⟩) (c10 : PySem.W.codeIn K cd10 "inner_views" = true) (k10 : PySem.W.keepIn K (.ref f10) = true)
    (a11 : PySem.W.nsIn K mainGlobals "all_alike" = some (some (.ref f11))) (l11 : K.lookup f11 = some ⟨oc11, od11, .func (PySem.W.fnOf "all_alike" "all_alike" (defArgs s_all_alike) (defBody s_all_alike) (defScope s_all_alike) .none kV11 dc11 pm11 an11 cd11 ct11), sl11⟩) (c11 : PySem.W.codeIn K cd11 "all_alike" = true) (k11 : PySem.W.keepIn K (.ref f11) = true)
    (a12 : PySem.W.nsIn K mainGlobals "own_terms" = some (some (.ref f12))) (l12 : K.lookup f12 = some ⟨oc12, od12, .func (PySem.W.fnOf "own_terms" "own_terms" (defArgs s_own_terms) (defBody s_own_terms) (defScope s_own_terms) .none kV12 dc12 pm12 an12 cd12 ct12), sl12⟩) (c12 : PySem.W.codeIn K cd12 "own_terms" = true) (k12 : PySem.W.keepIn K (.ref f12) = true)
    (a13 : PySem.W.nsIn K mainGlobals "is_leaf" = some (some (.ref f13))) (l13 : K.lookup f13 = some ⟨oc13, od13, .func (PySem.W.fnOf "is_leaf" "is_leaf" (defArgs s_is_leaf) (defBody s_is_leaf) (defScope s_is_leaf) .none kV13 dc13 pm13 an13 cd13 ct13), sl13⟩) (c13 : PySem.W.codeIn K cd13 "is_leaf" = true) (k13 : PySem.W.keepIn K (.ref f13) = true)
    (a14 : PySem.W.nsIn K mainGlobals "gathered" = some (some (.ref f14))) (l14 : K.lookup f14 = some ⟨oc14, od14, .func (PySem.W.fnOf "gathered" "gathered" (defArgs s_gathered) (defBody s_gathered) (defScope s_gathered) .none kV14 dc14 pm14 an14 cd14 ct14), sl14⟩) (c14 : PySem.W.codeIn K cd14 "gathered" = true) (k14 : PySem.W.keepIn K (.ref f14) = true)
    (a15 : PySem.W.nsIn K mainGlobals "fields_in" = some (some (.ref f15))) (l15 : K.lookup f15 = some ⟨oc15, od15, .func (PySem.W.fnOf "fields_in" "fields_in" (defArgs s_fields_in) (defBody s_fields_in) (defScope s_fields_in) .none kV15 dc15 pm15 an15 cd15 ct15), sl15⟩) (c15 : PySem.W.codeIn K cd15 "fields_in" = true) (k15 : PySem.W.keepIn K (.ref f15) = true)
    (a16 : PySem.W.nsIn K mainGlobals "width_made" = some (some (.ref f16))) (l16 : K.lookup f16 = some ⟨oc16, od16, .func (PySem.W.fnOf "width_made" "width_made" (defArgs s_width_made) (defBody s_width_made) (defScope s_width_made) .none kV16 dc16 pm16 an16 cd16 ct16), sl16⟩) (c16 : PySem.W.codeIn K cd16 "width_made" = true) (k16 : PySem.W.keepIn K (.ref f16) = true)
    (a17 : PySem.W.nsIn K mainGlobals "width_of" = some (some (.ref f17))) (l17 : K.lookup f17 = some ⟨oc17, od17, .func (PySem.W.fnOf "width_of" "width_of" (defArgs s_width_of) (defBody s_width_of) (defScope s_width_of) .none kV17 dc17 pm17 an17 cd17 ct17), sl17⟩) (c17 : PySem.W.codeIn K cd17 "width_of" = true) (k17 : PySem.W.keepIn K (.ref f17) = true)
    (a18 : PySem.W.nsIn K mainGlobals "_law_whole" = some (some (.ref f18))) (l18 : K.lookup f18 = some ⟨oc18, od18, .func (PySem.W.fnOf "_law_whole" "_law_whole" (defArgs s_l_whole) (defBody s_l_whole) (defScope s_l_whole) .none kV18 dc18 pm18 an18 cd18 ct18), sl18⟩) (c18 : PySem.W.codeIn K cd18 "_law_whole" = true) (k18 : PySem.W.keepIn K (.ref f18) = true)
    (a19 : PySem.W.nsIn K mainGlobals "view_depth" = some (some (.ref f19))) (l19 : K.lookup f19 = some ⟨oc19, od19, .func (PySem.W.fnOf "view_depth" "view_depth" (defArgs s_view_depth) (defBody s_view_depth) (defScope s_view_depth) .none kV19 dc19 pm19 an19 cd19 ct19), sl19⟩) (c19 : PySem.W.codeIn K cd19 "view_depth" = true) (k19 : PySem.W.keepIn K (.ref f19) = true)
    (a20 : PySem.W.nsIn K mainGlobals "_law_terms" = some (some (.ref f20))) (l20 : K.lookup f20 = some ⟨oc20, od20, .func (PySem.W.fnOf "_law_terms" "_law_terms" (defArgs s_l_terms) (defBody s_l_terms) (defScope s_l_terms) .none kV20 dc20 pm20 an20 cd20 ct20), sl20⟩) (c20 : PySem.W.codeIn K cd20 "_law_terms" = true) (k20 : PySem.W.keepIn K (.ref f20) = true)
    (a21 : PySem.W.nsIn K mainGlobals "names_in" = some (some (.ref f21))) (l21 : K.lookup f21 = some ⟨oc21, od21, .func (PySem.W.fnOf "names_in" "names_in" (defArgs s_names_in) (defBody s_names_in) (defScope s_names_in) .none kV21 dc21 pm21 an21 cd21 ct21), sl21⟩) (c21 : PySem.W.codeIn K cd21 "names_in" = true) (k21 : PySem.W.keepIn K (.ref f21) = true)
    (a22 : PySem.W.nsIn K mainGlobals "view_names" = some (some (.ref f22))) (l22 : K.lookup f22 = some ⟨oc22, od22, .func (PySem.W.fnOf "view_names" "view_names" (defArgs s_view_names) (defBody s_view_names) (defScope s_view_names) .none kV22 dc22 pm22 an22 cd22 ct22), sl22⟩) (c22 : PySem.W.codeIn K cd22 "view_names" = true) (k22 : PySem.W.keepIn K (.ref f22) = true)
    (a23 : PySem.W.nsIn K mainGlobals "_law_told" = some (some (.ref f23))) (l23 : K.lookup f23 = some ⟨oc23, od23, .func (PySem.W.fnOf "_law_told" "_law_told" (defArgs s_l_told) (defBody s_l_told) (defScope s_l_told) .none kV23 dc23 pm23 an23 cd23 ct23), sl23⟩) (c23 : PySem.W.codeIn K cd23 "_law_told" = true) (k23 : PySem.W.keepIn K (.ref f23) = true)
    (a24 : PySem.W.nsIn K mainGlobals "_law_bad" = some (some (.ref f24))) (l24 : K.lookup f24 = some ⟨oc24, od24, .func (PySem.W.fnOf "_law_bad" "_law_bad" (defArgs s_l_bad) (defBody s_l_bad) (defScope s_l_bad) .none kV24 dc24 pm24 an24 cd24 ct24), sl24⟩) (c24 : PySem.W.codeIn K cd24 "_law_bad" = true) (k24 : PySem.W.keepIn K (.ref f24) = true)
    (a25 : PySem.W.nsIn K mainGlobals "law" = some (some (.ref f25))) (l25 : K.lookup f25 = some ⟨oc25, od25, .func (PySem.W.fnOf "law" "law" (defArgs s_law) (defBody s_law) (defScope s_law) .none kV25 dc25 pm25 an25 cd25 ct25), sl25⟩) (c25 : PySem.W.codeIn K cd25 "law" = true) (k25 : PySem.W.keepIn K (.ref f25) = true)
    (z1 : PySem.W.nsIn K mainGlobals "len" = some none)
    (z2 : PySem.W.nsIn K mainGlobals "range" = some none)
    (z3 : PySem.W.nsIn K mainGlobals "tuple" = some none)
    (z4 : PySem.W.nsIn K mainGlobals "max" = some none)
    (z5 : PySem.W.nsIn K mainGlobals "set" = some none)
    (z6 : PySem.W.nsIn K mainGlobals "sorted" = some none)
    (z7 : PySem.W.nsIn K mainGlobals "isinstance" = some none)
    (z8 : PySem.W.nsIn K mainGlobals "int" = some none)
    (z9 : PySem.W.nsIn K mainGlobals "bool" = some none)
    (z10 : PySem.W.nsIn K mainGlobals "list" = some none)
    (kg_MOST_FIELDS : PySem.W.nsIn K mainGlobals "MOST_FIELDS" = some (some (.int 4 tk1)))
    : ∃ fd : FuncData, (∀ (s : Shared) (u : Value), BindsTo s fd ⟨[u], []⟩ [("_law_script", u)]) ∧ ∀ base : Heap, K.In base → base.Ns mainGlobals mg → FnOk P w K mg base (L2.CX P w) 28 fa fd ["_law_script"] (spD K mg 1 F_law) := by
  have e := hfa.symm.trans (PySem.W.mg_of X G a25)
  cases e
  have T : Txt K mg := ⟨PySem.W.mg_none_of X G z1, PySem.W.mg_none_of X G z2, PySem.W.mg_none_of X G z3, PySem.W.mg_none_of X G z4, PySem.W.mg_none_of X G z5, PySem.W.mg_none_of X G z6, PySem.W.mg_none_of X G z7, PySem.W.mg_none_of X G z8, PySem.W.mg_none_of X G z9, PySem.W.mg_none_of X G z10, (Con.int.at (PySem.W.mg_of X G kg_MOST_FIELDS))⟩
  have F1 := fun_mk (st := s_l_cell_at) l1 c1 k1
  have b1 := F1.binds (ps := ["_law_script", "_law_k"]) fun _ _ _ _ _ _ us hl => match us, hl with | [_, _], _ => rfl
  have F2 := fun_mk (st := s_l_mix) l2 c2 k2
  have b2 := F2.binds (ps := ["_law_cell", "_law_k"]) fun _ _ _ _ _ _ us hl => match us, hl with | [_, _], _ => rfl
  have F3 := fun_mk (st := s_l_number) l3 c3 k3
  have b3 := F3.binds (ps := ["_law_cell", "_law_k", "_law_many"]) fun _ _ _ _ _ _ us hl => match us, hl with | [_, _, _], _ => rfl
  have F4 := fun_mk (st := s_l_leaf) l4 c4 k4
  have b4 := F4.binds (ps := ["_law_cell", "_law_k", "_law_width"]) fun _ _ _ _ _ _ us hl => match us, hl with | [_, _, _], _ => rfl
  have F5 := fun_mk (st := s_l_term) l5 c5 k5
  have b5 := F5.binds (ps := ["_law_cell", "_law_k", "_law_width"]) fun _ _ _ _ _ _ us hl => match us, hl with | [_, _, _], _ => rfl
  have F6 := fun_mk (st := s_l_made_pairs) l6 c6 k6
  have b6 := F6.binds (ps := ["_law_cell", "_law_wide"]) fun _ _ _ _ _ _ us hl => match us, hl with | [_, _], _ => rfl
  have F7 := fun_mk (st := s_l_most) l7 c7 k7
  have b7 := F7.binds (ps := ["_law_pairs"]) fun _ _ _ _ _ _ us hl => match us, hl with | [_], _ => rfl
  have F8 := fun_mk (st := s_l_grown) l8 c8 k8
  have b8 := F8.binds (ps := ["_law_cell", "_law_past"]) fun _ _ _ _ _ _ us hl => match us, hl with | [_, _], _ => rfl
  have F9 := fun_mk (st := s_l_views) l9 c9 k9
  have b9 := F9.binds (ps := ["_law_cells", "_law_width"]) fun _ _ _ _ _ _ us hl => match us, hl with | [_, _], _ => rfl
  have F10 := fun_mk (st := s_inner_views) l10 c10 k10
  have b10 := F10.binds (ps := ["view"]) fun _ _ _ _ _ _ us hl => match us, hl with | [_], _ => rfl
  have F11 := fun_mk (st := s_all_alike) l11 c11 k11
  have b11 := F11.binds (ps := ["numbers"]) fun _ _ _ _ _ _ us hl => match us, hl with | [_], _ => rfl
  have F12 := fun_mk (st := s_own_terms) l12 c12 k12
  have b12 := F12.binds (ps := ["view"]) fun _ _ _ _ _ _ us hl => match us, hl with | [_], _ => rfl
  have F13 := fun_mk (st := s_is_leaf) l13 c13 k13
  have b13 := F13.binds (ps := ["term"]) fun _ _ _ _ _ _ us hl => match us, hl with | [_], _ => rfl
  have F14 := fun_mk (st := s_gathered) l14 c14 k14
  have b14 := F14.binds (ps := ["term", "kind"]) fun _ _ _ _ _ _ us hl => match us, hl with | [_, _], _ => rfl
  have F15 := fun_mk (st := s_fields_in) l15 c15 k15
  have b15 := F15.binds (ps := ["term"]) fun _ _ _ _ _ _ us hl => match us, hl with | [_], _ => rfl
  have F16 := fun_mk (st := s_width_made) l16 c16 k16
  have b16 := F16.binds (ps := ["view", "width"]) fun _ _ _ _ _ _ us hl => match us, hl with | [_, _], _ => rfl
  have F17 := fun_mk (st := s_width_of) l17 c17 k17
  have b17 := F17.binds (ps := ["view", "width"]) fun _ _ _ _ _ _ us hl => match us, hl with | [_, _], _ => rfl
  have F18 := fun_mk (st := s_l_whole) l18 c18 k18
  have b18 := F18.binds (ps := ["_law_found"]) fun _ _ _ _ _ _ us hl => match us, hl with | [_], _ => rfl
  have F19 := fun_mk (st := s_view_depth) l19 c19 k19
  have b19 := F19.binds (ps := ["view"]) fun _ _ _ _ _ _ us hl => match us, hl with | [_], _ => rfl
  have F20 := fun_mk (st := s_l_terms) l20 c20 k20
  have b20 := F20.binds (ps := ["_law_view"]) fun _ _ _ _ _ _ us hl => match us, hl with | [_], _ => rfl
  have F21 := fun_mk (st := s_names_in) l21 c21 k21
  have b21 := F21.binds (ps := ["term"]) fun _ _ _ _ _ _ us hl => match us, hl with | [_], _ => rfl
  have F22 := fun_mk (st := s_view_names) l22 c22 k22
  have b22 := F22.binds (ps := ["view"]) fun _ _ _ _ _ _ us hl => match us, hl with | [_], _ => rfl
  have F23 := fun_mk (st := s_l_told) l23 c23 k23
  have b23 := F23.binds (ps := ["_law_view", "_law_wide", "_law_deep"]) fun _ _ _ _ _ _ us hl => match us, hl with | [_, _, _], _ => rfl
  have F24 := fun_mk (st := s_l_bad) l24 c24 k24
  have b24 := F24.binds (ps := ["_law_view", "_law_wide", "_law_n"]) fun _ _ _ _ _ _ us hl => match us, hl with | [_, _, _], _ => rfl
  have F25 := fun_mk (st := s_law) l25 c25 k25
  have b25 := F25.binds (ps := ["_law_script"]) fun _ _ _ _ _ _ us hl => match us, hl with | [_], _ => rfl
  refine ⟨PySem.W.fnOf "law" "law" (defArgs s_law) (defBody s_law) (defScope s_law) .none kV25 dc25 pm25 an25 cd25 ct25, fun s v => .of_eq rfl, fun base _ _ => ?_⟩
  have h_l_cell_at : CallOk P w K mg base 1 "_law_cell_at" ["_law_script", "_law_k"] F_l_cell_at := ⟨f1, _, PySem.W.mg_of X G a1, k1, b1, ok_l_cell_at T F1 ⟩
  have h_l_mix : CallOk P w K mg base 1 "_law_mix" ["_law_cell", "_law_k"] F_l_mix := ⟨f2, _, PySem.W.mg_of X G a2, k2, b2, ok_l_mix T F2 ⟩
  have h_l_number : CallOk P w K mg base 2 "_law_number" ["_law_cell", "_law_k", "_law_many"] F_l_number := ⟨f3, _, PySem.W.mg_of X G a3, k3, b3, ok_l_number T F3 (h_l_mix.up (by decide))⟩
  have h_l_leaf : CallOk P w K mg base 3 "_law_leaf" ["_law_cell", "_law_k", "_law_width"] F_l_leaf := ⟨f4, _, PySem.W.mg_of X G a4, k4, b4, ok_l_leaf T F4 (h_l_mix.up (by decide)) (h_l_number.up (by decide))⟩
  have h_l_term : CallOk P w K mg base 4 "_law_term" ["_law_cell", "_law_k", "_law_width"] F_l_term := ⟨f5, _, PySem.W.mg_of X G a5, k5, b5, ok_l_term T F5 (h_l_mix.up (by decide)) (h_l_leaf.up (by decide))⟩
  have h_l_made_pairs : CallOk P w K mg base 3 "_law_made_pairs" ["_law_cell", "_law_wide"] F_l_made_pairs := ⟨f6, _, PySem.W.mg_of X G a6, k6, b6, ok_l_made_pairs T F6 (h_l_mix.up (by decide)) (h_l_number.up (by decide))⟩
  have h_l_most : CallOk P w K mg base 1 "_law_most" ["_law_pairs"] F_l_most := ⟨f7, _, PySem.W.mg_of X G a7, k7, b7, ok_l_most T F7 ⟩
  have h_l_grown : CallOkM P w K mg base 5 "_law_grown" ["_law_cell", "_law_past"] [1] F_l_grown := ⟨⟨f8, _, PySem.W.mg_of X G a8, k8, b8, ok_l_grown T F8 (h_l_mix.up (by decide)) (h_l_term.up (by decide)) (h_l_made_pairs.up (by decide)) (h_l_most.up (by decide))⟩⟩
  have h_l_views : CallOk P w K mg base 6 "_law_views" ["_law_cells", "_law_width"] F_l_views := ⟨f9, _, PySem.W.mg_of X G a9, k9, b9, ok_l_views T F9 (h_l_grown.up (by decide))⟩
  have h_inner_views : CallOk P w K mg base 1 "inner_views" ["view"] F_inner_views := ⟨f10, _, PySem.W.mg_of X G a10, k10, b10, ok_inner_views T F10 ⟩
  have h_all_alike : CallOk P w K mg base 1 "all_alike" ["numbers"] F_all_alike := ⟨f11, _, PySem.W.mg_of X G a11, k11, b11, ok_all_alike T F11 ⟩
  have h_own_terms : CallOk P w K mg base 1 "own_terms" ["view"] F_own_terms := ⟨f12, _, PySem.W.mg_of X G a12, k12, b12, ok_own_terms T F12 ⟩
  have h_is_leaf : CallOk P w K mg base 1 "is_leaf" ["term"] F_is_leaf := ⟨f13, _, PySem.W.mg_of X G a13, k13, b13, ok_is_leaf T F13 ⟩
  have r_gathered : ∀ n, CallOk P w K mg base (1 + n) "gathered" ["term", "kind"] (R_gathered n) := fun n => by
    induction n with
    | zero => exact ⟨f14, _, PySem.W.mg_of X G a14, k14, b14, fn_bad fun _ => rfl⟩
    | succ n ih => exact ⟨f14, _, PySem.W.mg_of X G a14, k14, b14, ok_gathered T F14 (h_is_leaf.up (k := 1 + n) (Nat.le_trans (by decide : 1 ≤ 1) (Nat.le_add_right 1 n))) ih⟩
  have h_gathered : CallOk P w K mg base 13 "gathered" ["term", "kind"] F_gathered := r_gathered 12
  have h_fields_in : CallOk P w K mg base 14 "fields_in" ["term"] F_fields_in := ⟨f15, _, PySem.W.mg_of X G a15, k15, b15, ok_fields_in T F15 (h_gathered.up (by decide))⟩
  have h_width_made : CallOk P w K mg base 2 "width_made" ["view", "width"] F_width_made := ⟨f16, _, PySem.W.mg_of X G a16, k16, b16, ok_width_made T F16 (h_all_alike.up (by decide))⟩
  have r_width_of : ∀ n, CallOk P w K mg base (14 + n) "width_of" ["view", "width"] (R_width_of n) := fun n => by
    induction n with
    | zero => exact ⟨f17, _, PySem.W.mg_of X G a17, k17, b17, fn_bad fun _ => rfl⟩
    | succ n ih => exact ⟨f17, _, PySem.W.mg_of X G a17, k17, b17, ok_width_of T F17 (h_inner_views.up (k := 14 + n) (Nat.le_trans (by decide : 1 ≤ 14) (Nat.le_add_right 14 n))) ih (h_all_alike.up (k := 14 + n) (Nat.le_trans (by decide : 1 ≤ 14) (Nat.le_add_right 14 n))) (h_own_terms.up (k := 14 + n) (Nat.le_trans (by decide : 1 ≤ 14) (Nat.le_add_right 14 n))) (h_fields_in.up (k := 14 + n) (Nat.le_trans (by decide : 14 ≤ 14) (Nat.le_add_right 14 n))) (h_width_made.up (k := 14 + n) (Nat.le_trans (by decide : 2 ≤ 14) (Nat.le_add_right 14 n)))⟩
  have h_width_of : CallOk P w K mg base 26 "width_of" ["view", "width"] F_width_of := r_width_of 12
  have h_l_whole : CallOk P w K mg base 1 "_law_whole" ["_law_found"] F_l_whole := ⟨f18, _, PySem.W.mg_of X G a18, k18, b18, ok_l_whole T F18 ⟩
  have r_view_depth : ∀ n, CallOk P w K mg base (1 + n) "view_depth" ["view"] (R_view_depth n) := fun n => by
    induction n with
    | zero => exact ⟨f19, _, PySem.W.mg_of X G a19, k19, b19, fn_bad fun _ => rfl⟩
    | succ n ih => exact ⟨f19, _, PySem.W.mg_of X G a19, k19, b19, ok_view_depth T F19 (h_inner_views.up (k := 1 + n) (Nat.le_trans (by decide : 1 ≤ 1) (Nat.le_add_right 1 n))) ih⟩
  have h_view_depth : CallOk P w K mg base 13 "view_depth" ["view"] F_view_depth := r_view_depth 12
  have r_l_terms : ∀ n, CallOk P w K mg base (0 + n) "_law_terms" ["_law_view"] (R_l_terms n) := fun n => by
    induction n with
    | zero => exact ⟨f20, _, PySem.W.mg_of X G a20, k20, b20, fn_bad fun _ => rfl⟩
    | succ n ih => exact ⟨f20, _, PySem.W.mg_of X G a20, k20, b20, ok_l_terms T F20 ih⟩
  have h_l_terms : CallOk P w K mg base 12 "_law_terms" ["_law_view"] F_l_terms := r_l_terms 12
  have h_names_in : CallOk P w K mg base 14 "names_in" ["term"] F_names_in := ⟨f21, _, PySem.W.mg_of X G a21, k21, b21, ok_names_in T F21 (h_gathered.up (by decide))⟩
  have r_view_names : ∀ n, CallOk P w K mg base (14 + n) "view_names" ["view"] (R_view_names n) := fun n => by
    induction n with
    | zero => exact ⟨f22, _, PySem.W.mg_of X G a22, k22, b22, fn_bad fun _ => rfl⟩
    | succ n ih => exact ⟨f22, _, PySem.W.mg_of X G a22, k22, b22, ok_view_names T F22 (h_own_terms.up (k := 14 + n) (Nat.le_trans (by decide : 1 ≤ 14) (Nat.le_add_right 14 n))) (h_names_in.up (k := 14 + n) (Nat.le_trans (by decide : 14 ≤ 14) (Nat.le_add_right 14 n))) (h_inner_views.up (k := 14 + n) (Nat.le_trans (by decide : 1 ≤ 14) (Nat.le_add_right 14 n))) ih⟩
  have h_view_names : CallOk P w K mg base 26 "view_names" ["view"] F_view_names := r_view_names 12
  have h_l_told : CallOk P w K mg base 27 "_law_told" ["_law_view", "_law_wide", "_law_deep"] F_l_told := ⟨f23, _, PySem.W.mg_of X G a23, k23, b23, ok_l_told T F23 (h_width_of.up (by decide)) (h_l_whole.up (by decide)) (h_view_depth.up (by decide)) (h_l_terms.up (by decide)) (h_names_in.up (by decide)) (h_view_names.up (by decide))⟩
  have h_l_bad : CallOk P w K mg base 1 "_law_bad" ["_law_view", "_law_wide", "_law_n"] F_l_bad := ⟨f24, _, PySem.W.mg_of X G a24, k24, b24, ok_l_bad T F24 ⟩
  exact ok_law T F25 (h_l_cell_at.up (by decide)) (h_l_views.up (by decide)) (h_l_told.up (by decide)) (h_l_mix.up (by decide)) (h_l_bad.up (by decide))
end DLaw
open PySem PySem.W PyProof.Rows
set_option maxRecDepth 100000 in
set_option maxHeartbeats 0 in
theorem PySem.Challenge.cw_blurdesk_k21_widths_depths_names_holds : PySem.Challenge.rw_blurdesk_k21_widths_depths_names.Holds := by
  w_on; o_law; k_head; (case hw => w_witness2)
  k_fill
  refine DL.endW (l := PySem.Challenge.rw_blurdesk_k21_widths_depths_names) (k := 28) (F := DLaw.F_law) (x := "_law_script") rfl rfl (by decide) (fun w h Y => PySem.W.kIn_of Y) ?F DLaw.law_holds
  case F =>
    intro w mg fa h KX G hmg
    refine' DLaw.all_mk KX G hmg ?a1 ?l1 ?c1 ?k1 ?a2 ?l2 ?c2 ?k2 ?a3 ?l3 ?c3 ?k3 ?a4 ?l4 ?c4 ?k4 ?a5 ?l5 ?c5 ?k5 ?a6 ?l6 ?c6 ?k6 ?a7 ?l7 ?c7 ?k7 ?a8 ?l8 ?c8 ?k8 ?a9 ?l9 ?c9 ?k9 ?a10 ?l10 ?c10 ?k10 ?a11 ?l11 ?c11 ?k11 ?a12 ?l12 ?c12 ?k12 ?a13 ?l13 ?c13 ?k13 ?a14 ?l14 ?c14 ?k14 ?a15 ?l15 ?c15 ?k15 ?a16 ?l16 ?c16 ?k16 ?a17 ?l17 ?c17 ?k17 ?a18 ?l18 ?c18 ?k18 ?a19 ?l19 ?c19 ?k19 ?a20 ?l20 ?c20 ?k20 ?a21 ?l21 ?c21 ?k21 ?a22 ?l22 ?c22 ?k22 ?a23 ?l23 ?c23 ?k23 ?a24 ?l24 ?c24 ?k24 ?a25 ?l25 ?c25 ?k25 ?z1 ?z2 ?z3 ?z4 ?z5 ?z6 ?z7 ?z8 ?z9 ?z10 ?kg_MOST_FIELDS
    (case a1 => k_is); (case l1 => k_is); (case c1 => k_is); (case k1 => k_is); (case a2 => k_is); (case l2 => k_is)
    (case c2 => k_is); (case k2 => k_is); (case a3 => k_is); (case l3 => k_is); (case c3 => k_is); (case k3 => k_is)
    (case a4 => k_is); (case l4 => k_is); (case c4 => k_is); (case k4 => k_is); (case a5 => k_is); (case l5 => k_is)
    (case c5 => k_is); (case k5 => k_is); (case a6 => k_is); (case l6 => k_is); (case c6 => k_is); (case k6 => k_is)
    (case a7 => k_is); (case l7 => k_is); (case c7 => k_is); (case k7 => k_is); (case a8 => k_is); (case l8 => k_is)
    (case c8 => k_is); (case k8 => k_is); (case a9 => k_is); (case l9 => k_is); (case c9 => k_is); (case k9 => k_is)
    (case a10 => k_is); (case l10 => k_is); (case c10 => k_is); (case k10 => k_is); (case a11 => k_is); (case l11 => k_is)
    (case c11 => k_is); (case k11 => k_is); (case a12 => k_is); (case l12 => k_is); (case c12 => k_is); (case k12 => k_is)
    (case a13 => k_is); (case l13 => k_is); (case c13 => k_is); (case k13 => k_is); (case a14 => k_is); (case l14 => k_is)
    (case c14 => k_is); (case k14 => k_is); (case a15 => k_is); (case l15 => k_is); (case c15 => k_is); (case k15 => k_is)
    (case a16 => k_is); (case l16 => k_is); (case c16 => k_is); (case k16 => k_is); (case a17 => k_is); (case l17 => k_is)
    (case c17 => k_is); (case k17 => k_is); (case a18 => k_is); (case l18 => k_is); (case c18 => k_is); (case k18 => k_is)
    (case a19 => k_is); (case l19 => k_is); (case c19 => k_is); (case k19 => k_is); (case a20 => k_is); (case l20 => k_is)
    (case c20 => k_is); (case k20 => k_is); (case a21 => k_is); (case l21 => k_is); (case c21 => k_is); (case k21 => k_is)
    (case a22 => k_is); (case l22 => k_is); (case c22 => k_is); (case k22 => k_is); (case a23 => k_is); (case l23 => k_is)
    (case c23 => k_is); (case k23 => k_is); (case a24 => k_is); (case l24 => k_is); (case c24 => k_is); (case k24 => k_is)
    (case a25 => k_is); (case l25 => k_is); (case c25 => k_is); (case k25 => k_is); (case z1 => k_is); (case z2 => k_is)
    (case z3 => k_is); (case z4 => k_is); (case z5 => k_is); (case z6 => k_is); (case z7 => k_is); (case z8 => k_is)
    (case z9 => k_is); (case z10 => k_is); (case kg_MOST_FIELDS => k_is)
#print axioms PySem.Challenge.cw_blurdesk_k21_widths_depths_names_holds
