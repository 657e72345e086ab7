import PyProof.Rows.All
import Wide.All
import OpenK.AllK
import Wide.FinOn
import HandS.ForExc
import HandS.ForMost
import HandS.Wide
import HandS.ExcOwn
import HandS.TupAny
import HandS.TupMul
import KE.DataCmp
import KE.SortData
import HandS.TupLen
import HandS.IsInst
import HandS.EndBits
import HandS.Zip
import HandS.ExcIs
import KE.DataMinMax
import KE.DataFind
import HandS.Conv
import HandS.Deep
import HandS.Style
import HandS.Text
import HandS.SetFor
import KE.GoesEnum
import HandS.Iter
import HandS.RevTup
import HandS.Rev
import HandS.DictComp
import PySem.Challenge.RW_blurdesk_k10_ops_on_numbers
set_option Elab.async false
set_option linter.all false
set_option maxRecDepth 100000
set_option maxHeartbeats 4000000
/-! Plain data over the hand layer: values without addresses; lists and dicts by value, changed in place only through the one name that holds them. -/
namespace DL
open PySem PySem.Spec PyProof.Rows L2

/-- a value, whole -/
inductive D where
  | non
  | bl (b : Bool)
  | int (i : Int)
  | str (x : Str)
  | obj (v : V)
  | tup (xs : List D)
  | con (xs : List D)
  | lst (xs : List D)
  | dct (t : Bool) (kvs : List (D × D))

/-- what comes of a reckoning -/
inductive Res (α : Type) where
  | ok (a : α)
  | exc (c : String) (fs : List D)
  | bad

def Res.bind {α β : Type} (r : Res α) (f : α → Res β) : Res β := match r with
  | .ok a => f a
  | .exc c fs => .exc c fs
  | .bad => .bad
@[simp] theorem Res.bind_ok {α β : Type} (a : α) (f : α → Res β) : (Res.ok a).bind f = f a := Eq.trans rfl rfl
@[simp] theorem Res.bind_exc {α β : Type} (c : String) (fs : List D) (f : α → Res β) : (Res.exc c fs : Res α).bind f = .exc c fs := Eq.trans rfl rfl
@[simp] theorem Res.bind_bad {α β : Type} (f : α → Res β) : (Res.bad : Res α).bind f = .bad := Eq.trans rfl rfl

/-- keys of dicts -/
def keyD : Key → D
  | .inl i => .int i
  | .inr x => .str x
def keyT (k : List Key) : D := .tup (k.map keyD)

mutual
/-- the value v is the data d, over the heap's part G -/
def Rep (K : PySem.W.Frag) (G : Hp) : D → V → Prop
  | .non, v => v = .non
  | .bl b, v => v = .bl b
  | .int i, v => v = .int i
  | .str x, v => v = .str x
  | .obj u, v => v = u
  | .tup ds, v => ∃ a vs, v = .ref a ∧ G a = some (.tup vs) ∧ RepL K G ds vs
  | .con ds, v => ∃ a vs, v = .ref a ∧ SqT K G a vs ∧ RepL K G ds vs
  | .lst ds, v => ∃ a vs, v = .ref a ∧ SqL K G a vs ∧ RepL K G ds vs
  | .dct t kvs, v => ∃ a, v = .ref a ∧ ((t = false ∧ ∃ ps, Rd G a (.dK ps) ∧ kvs.map (·.1) = ps.map (fun p => keyD p.1) ∧ RepV K G kvs (ps.map (·.2))) ∨
      (t = true ∧ ∃ ps, Rd G a (.dT ps) ∧ kvs.map (·.1) = ps.map (fun p => keyT p.1) ∧ RepV K G kvs (ps.map (·.2))))
def RepL (K : PySem.W.Frag) (G : Hp) : List D → List V → Prop
  | [], vs => vs = []
  | d :: ds, vs => ∃ v r, vs = v :: r ∧ Rep K G d v ∧ RepL K G ds r
def RepV (K : PySem.W.Frag) (G : Hp) : List (D × D) → List V → Prop
  | [], vs => vs = []
  | (_, d) :: r, vs => ∃ v r', vs = v :: r' ∧ Rep K G d v ∧ RepV K G r r'
end

/-- the part G lies in H -/
def Sub (G H : Hp) : Prop := ∀ b o, G b = some o → H b = some o
theorem Sub.refl (H : Hp) : Sub H H := fun _ _ e => e
theorem Sub.trans {A B C : Hp} (h : Sub A B) (k : Sub B C) : Sub A C := fun b o e => k b o (h b o e)
theorem Sub.rd {G H : Hp} (h : Sub G H) {a : Addr} {u : HO} (r : Rd G a u) : Rd H a u := by
  rcases r with r | ⟨o, r⟩
  · exact .inl (h _ _ r)
  · exact .inr ⟨o, h _ _ r⟩
theorem Sub.sql {K : PySem.W.Frag} {G H : Hp} (h : Sub G H) {a : Addr} {xs : List V} (r : SqL K G a xs) : SqL K H a xs := by
  rcases r with r | r
  · exact .inl (h.rd r)
  · exact .inr r
theorem Sub.sqt {K : PySem.W.Frag} {G H : Hp} (h : Sub G H) {a : Addr} {xs : List V} (r : SqT K G a xs) : SqT K H a xs := by
  rcases r with r | r
  · exact .inl (h.rd r)
  · exact .inr r
theorem Sub.pt {K : PySem.W.Frag} {G H : Hp} (h : Sub G H) {a : Addr} {xs : List V} (r : G a = some (.tup xs)) : SqT K H a xs := SqT.of (h a _ r)
theorem Sub.upd {H : Hp} {a : Addr} {o : HO} (h : H a = none) : Sub H (upd H a o) := fun b u e => by
  rw [upd_ne (ne_of_none e h)]; exact e
theorem Sub.free {G H : Hp} (h : Sub G H) {a : Addr} (e : H a = none) : G a = none := by
  cases q : G a with
  | none => rfl
  | some o => rw [h _ _ q] at e; cases e

mutual
theorem Rep.mono {K : PySem.W.Frag} {G H : Hp} (h : Sub G H) : ∀ {d : D} {v : V}, Rep K G d v → Rep K H d v
  | .non, _, e => e
  | .bl _, _, e => e
  | .int _, _, e => e
  | .str _, _, e => e
  | .obj _, _, e => e
  | .tup _, _, ⟨a, vs, e, s, r⟩ => ⟨a, vs, e, h a _ s, RepL.mono h r⟩
  | .con _, _, ⟨a, vs, e, s, r⟩ => ⟨a, vs, e, h.sqt s, RepL.mono h r⟩
  | .lst _, _, ⟨a, vs, e, s, r⟩ => ⟨a, vs, e, h.sql s, RepL.mono h r⟩
  | .dct _ _, _, ⟨a, e, .inl ⟨t0, ps, s, k, r⟩⟩ => ⟨a, e, .inl ⟨t0, ps, h.rd s, k, RepV.mono h r⟩⟩
  | .dct _ _, _, ⟨a, e, .inr ⟨t0, ps, s, k, r⟩⟩ => ⟨a, e, .inr ⟨t0, ps, h.rd s, k, RepV.mono h r⟩⟩
theorem RepL.mono {K : PySem.W.Frag} {G H : Hp} (h : Sub G H) : ∀ {ds : List D} {vs : List V}, RepL K G ds vs → RepL K H ds vs
  | [], _, e => e
  | _ :: _, _, ⟨v, r, e, x, y⟩ => ⟨v, r, e, Rep.mono h x, RepL.mono h y⟩
theorem RepV.mono {K : PySem.W.Frag} {G H : Hp} (h : Sub G H) : ∀ {ds : List (D × D)} {vs : List V}, RepV K G ds vs → RepV K H ds vs
  | [], _, e => e
  | (_, _) :: _, _, ⟨v, r, e, x, y⟩ => ⟨v, r, e, Rep.mono h x, RepV.mono h y⟩
end

section
variable {K : PySem.W.Frag} {G : Hp}
theorem RepL.nil : RepL K G [] [] := rfl
theorem RepL.cons {d : D} {v : V} {ds : List D} {vs : List V} (h : Rep K G d v) (t : RepL K G ds vs) : RepL K G (d :: ds) (v :: vs) := ⟨v, vs, rfl, h, t⟩
theorem RepL.length : ∀ {ds : List D} {vs : List V}, RepL K G ds vs → vs.length = ds.length
  | [], _, e => by rw [show _ = [] from e]; rfl
  | _ :: _, _, ⟨v, r, e, x, y⟩ => by rw [e, List.length_cons, List.length_cons, RepL.length y]
theorem RepL.get : ∀ {ds : List D} {vs : List V} {i : Nat} {d : D}, RepL K G ds vs → ds[i]? = some d → ∃ v, vs[i]? = some v ∧ Rep K G d v
  | _ :: _, _, 0, _, ⟨v, r, e, x, y⟩, h => by cases h; exact ⟨v, by rw [e]; rfl, x⟩
  | _ :: _, _, i + 1, d, ⟨v, r, e, x, y⟩, h => by
    obtain ⟨w, h1, h2⟩ := RepL.get (i := i) (d := d) y (by simpa using h)
    exact ⟨w, by rw [e]; simpa using h1, h2⟩
theorem RepL.get' : ∀ {ds : List D} {vs : List V} {i : Nat} {v : V}, RepL K G ds vs → vs[i]? = some v → ∃ d, ds[i]? = some d ∧ Rep K G d v
  | [], _, i, v, e, h => by rw [show _ = [] from e] at h; simp at h
  | d :: _, _, 0, v, ⟨w, r, e, x, y⟩, h => by rw [e] at h; cases h; exact ⟨d, rfl, x⟩
  | _ :: _, _, i + 1, v, ⟨w, r, e, x, y⟩, h => by
    rw [e] at h
    obtain ⟨d, h1, h2⟩ := RepL.get' (i := i) (v := v) y (by simpa using h)
    exact ⟨d, by simpa using h1, h2⟩
theorem RepL.append : ∀ {ds es : List D} {vs ws : List V}, RepL K G ds vs → RepL K G es ws → RepL K G (ds ++ es) (vs ++ ws)
  | [], _, _, _, e, t => by rw [show _ = [] from e]; exact t
  | _ :: _, _, _, _, ⟨v, r, e, x, y⟩, t => by rw [e]; exact ⟨v, _, rfl, x, RepL.append y t⟩
theorem RepL.drop : ∀ {ds : List D} {vs : List V} (n : Nat), RepL K G ds vs → RepL K G (ds.drop n) (vs.drop n)
  | _, _, 0, h => h
  | [], _, n + 1, e => by rw [show _ = [] from e]; rfl
  | _ :: _, _, n + 1, ⟨v, r, e, x, y⟩ => by rw [e]; exact RepL.drop n y
theorem RepL.take : ∀ {ds : List D} {vs : List V} (n : Nat), RepL K G ds vs → RepL K G (ds.take n) (vs.take n)
  | _, _, 0, h => rfl
  | [], _, n + 1, e => by rw [show _ = [] from e]; rfl
  | _ :: _, _, n + 1, ⟨v, r, e, x, y⟩ => by rw [e]; exact ⟨v, _, rfl, x, RepL.take n y⟩
theorem RepL.set {d : D} {v : V} (h : Rep K G d v) : ∀ {ds : List D} {vs : List V} (n : Nat), RepL K G ds vs → RepL K G (ds.set n d) (vs.set n v)
  | [], _, n, e => by rw [show _ = [] from e]; rfl
  | _ :: _, _, 0, ⟨w, r, e, x, y⟩ => by rw [e]; exact ⟨v, r, rfl, h, y⟩
  | _ :: _, _, n + 1, ⟨w, r, e, x, y⟩ => by rw [e]; exact ⟨w, _, rfl, x, RepL.set h n y⟩
theorem RepL.reverse : ∀ {ds : List D} {vs : List V}, RepL K G ds vs → RepL K G ds.reverse vs.reverse
  | [], _, e => by rw [show _ = [] from e]; rfl
  | _ :: _, _, ⟨w, r, e, x, y⟩ => by rw [e, List.reverse_cons, List.reverse_cons]; exact RepL.append (RepL.reverse y) ⟨w, [], rfl, x, rfl⟩
theorem RepL.ints : ∀ {ns : List Int} {vs : List V}, RepL K G (ns.map D.int) vs → vs = ns.map V.int
  | [], _, e => e
  | _ :: _, _, ⟨v, r, e, x, y⟩ => by rw [e, show v = _ from x, RepL.ints y]; rfl
theorem RepL.of_ints : ∀ (ns : List Int), RepL K G (ns.map D.int) (ns.map V.int)
  | [] => rfl
  | n :: ns => ⟨_, _, rfl, rfl, RepL.of_ints ns⟩
theorem RepL.strs : ∀ {ns : List Str} {vs : List V}, RepL K G (ns.map D.str) vs → vs = ns.map V.str
  | [], _, e => e
  | _ :: _, _, ⟨v, r, e, x, y⟩ => by rw [e, show v = _ from x, RepL.strs y]; rfl
theorem RepL.of_strs : ∀ (ns : List Str), RepL K G (ns.map D.str) (ns.map V.str)
  | [] => rfl
  | n :: ns => ⟨_, _, rfl, rfl, RepL.of_strs ns⟩
theorem RepL.bls : ∀ {ns : List Bool} {vs : List V}, RepL K G (ns.map D.bl) vs → vs = ns.map V.bl
  | [], _, e => e
  | _ :: _, _, ⟨v, r, e, x, y⟩ => by rw [e, show v = _ from x, RepL.bls y]; rfl
theorem Rep.tup {a : Addr} {ds : List D} {vs : List V} (h : G a = some (.tup vs)) (r : RepL K G ds vs) : Rep K G (.tup ds) (.ref a) := ⟨a, vs, rfl, h, r⟩
theorem Rep.lst {a : Addr} {ds : List D} {vs : List V} (h : SqL K G a vs) (r : RepL K G ds vs) : Rep K G (.lst ds) (.ref a) := ⟨a, vs, rfl, h, r⟩
end

/-- a value whose outer list or dict is read in H, its items in G -/
def RepC (K : PySem.W.Frag) (H G : Hp) : D → V → Prop
  | .lst ds, v => ∃ a vs, v = .ref a ∧ SqL K H a vs ∧ RepL K G ds vs
  | .dct t kvs, v => ∃ a, v = .ref a ∧ ((t = false ∧ ∃ ps, Rd H a (.dK ps) ∧ kvs.map (·.1) = ps.map (fun p => keyD p.1) ∧ RepV K G kvs (ps.map (·.2))) ∨
      (t = true ∧ ∃ ps, Rd H a (.dT ps) ∧ kvs.map (·.1) = ps.map (fun p => keyT p.1) ∧ RepV K G kvs (ps.map (·.2))))
  | d, v => Rep K G d v
theorem Rep.c {K : PySem.W.Frag} {G H : Hp} (h : Sub G H) : ∀ {d : D} {v : V}, Rep K G d v → RepC K H G d v
  | .non, _, e => e
  | .bl _, _, e => e
  | .int _, _, e => e
  | .str _, _, e => e
  | .obj _, _, e => e
  | .tup _, _, e => e
  | .con _, _, e => e
  | .lst _, _, ⟨a, vs, e, s, r⟩ => ⟨a, vs, e, h.sql s, r⟩
  | .dct _ _, _, ⟨a, e, .inl ⟨t0, ps, s, k, r⟩⟩ => ⟨a, e, .inl ⟨t0, ps, h.rd s, k, r⟩⟩
  | .dct _ _, _, ⟨a, e, .inr ⟨t0, ps, s, k, r⟩⟩ => ⟨a, e, .inr ⟨t0, ps, h.rd s, k, r⟩⟩
theorem RepC.all {K : PySem.W.Frag} {G H : Hp} (h : Sub G H) : ∀ {d : D} {v : V}, RepC K H G d v → Rep K H d v
  | .non, _, e => e
  | .bl _, _, e => e
  | .int _, _, e => e
  | .str _, _, e => e
  | .obj _, _, e => e
  | .tup _, _, e => Rep.mono h e
  | .con _, _, e => Rep.mono h e
  | .lst _, _, ⟨a, vs, e, s, r⟩ => ⟨a, vs, e, s, RepL.mono h r⟩
  | .dct _ _, _, ⟨a, e, .inl ⟨t0, ps, s, k, r⟩⟩ => ⟨a, e, .inl ⟨t0, ps, s, k, RepV.mono h r⟩⟩
  | .dct _ _, _, ⟨a, e, .inr ⟨t0, ps, s, k, r⟩⟩ => ⟨a, e, .inr ⟨t0, ps, s, k, RepV.mono h r⟩⟩
theorem RepC.mono {K : PySem.W.Frag} {G H G' H' : Hp} (h : Sub H H') (g : Sub G G') : ∀ {d : D} {v : V}, RepC K H G d v → RepC K H' G' d v
  | .non, _, e => e
  | .bl _, _, e => e
  | .int _, _, e => e
  | .str _, _, e => e
  | .obj _, _, e => e
  | .tup _, _, e => Rep.mono g e
  | .con _, _, e => Rep.mono g e
  | .lst _, _, ⟨a, vs, e, s, r⟩ => ⟨a, vs, e, h.sql s, RepL.mono g r⟩
  | .dct _ _, _, ⟨a, e, .inl ⟨t0, ps, s, k, r⟩⟩ => ⟨a, e, .inl ⟨t0, ps, h.rd s, k, RepV.mono g r⟩⟩
  | .dct _ _, _, ⟨a, e, .inr ⟨t0, ps, s, k, r⟩⟩ => ⟨a, e, .inr ⟨t0, ps, h.rd s, k, RepV.mono g r⟩⟩

/-- at a stands the list or dict d, that can be changed; its items in G -/
def OwnC (K : PySem.W.Frag) (H G : Hp) : D → Addr → Prop
  | .lst ds, a => ∃ vs, H a = some (.lst vs) ∧ RepL K G ds vs
  | .dct t kvs, a => (t = false ∧ ∃ ps, H a = some (.dK ps) ∧ kvs.map (·.1) = ps.map (fun p => keyD p.1) ∧ RepV K G kvs (ps.map (·.2))) ∨
      (t = true ∧ ∃ ps, H a = some (.dT ps) ∧ kvs.map (·.1) = ps.map (fun p => keyT p.1) ∧ RepV K G kvs (ps.map (·.2)))
  | _, _ => False
theorem OwnC.c {K : PySem.W.Frag} {H G : Hp} {d : D} {a : Addr} (h : OwnC K H G d a) : RepC K H G d (.ref a) := by
  cases d with
  | lst ds => obtain ⟨vs, e, r⟩ := h; exact ⟨a, vs, rfl, SqL.of e, r⟩
  | dct t kvs =>
    rcases h with ⟨t0, ps, e, k, r⟩ | ⟨t0, ps, e, k, r⟩
    · exact ⟨a, rfl, .inl ⟨t0, ps, .inl e, k, r⟩⟩
    · exact ⟨a, rfl, .inr ⟨t0, ps, .inl e, k, r⟩⟩
  | _ => exact h.elim
theorem OwnC.is {K : PySem.W.Frag} {H G : Hp} {d : D} {a : Addr} (h : OwnC K H G d a) : H a ≠ none := by
  cases d with
  | lst ds => obtain ⟨vs, e, r⟩ := h; rw [e]; simp
  | dct t kvs => rcases h with ⟨t0, ps, e, k, r⟩ | ⟨t0, ps, e, k, r⟩ <;> rw [e] <;> simp
  | _ => exact h.elim
theorem OwnC.mono' {K : PySem.W.Frag} {H H' G G' : Hp} {d : D} {a : Addr} (h : OwnC K H G d a) (e' : ∀ o, H a = some o → H' a = some o) (sg : Sub G G') : OwnC K H' G' d a := by
  cases d with
  | lst ds => obtain ⟨vs, e, r⟩ := h; exact ⟨vs, e' _ e, r.mono sg⟩
  | dct t kvs =>
    rcases h with ⟨t0, ps, e, k, r⟩ | ⟨t0, ps, e, k, r⟩
    · exact .inl ⟨t0, ps, e' _ e, k, r.mono sg⟩
    · exact .inr ⟨t0, ps, e' _ e, k, r.mono sg⟩
  | _ => exact h.elim
theorem OwnC.mono {K : PySem.W.Frag} {H H' G G' : Hp} {d : D} {a : Addr} (h : OwnC K H G d a) (sh : Sub H H') (sg : Sub G G') : OwnC K H' G' d a := h.mono' (fun o => sh a o) sg
theorem OwnC.put {K : PySem.W.Frag} {H G G' : Hp} {d : D} {a : Addr} (h : OwnC K H G d a) (sg : Sub G G') (e' : G' a = H a) : Rep K G' d (.ref a) := by
  cases d with
  | lst ds => obtain ⟨vs, e, r⟩ := h; exact ⟨a, vs, rfl, SqL.of (e'.trans e), r.mono sg⟩
  | dct t kvs =>
    rcases h with ⟨t0, ps, e, k, r⟩ | ⟨t0, ps, e, k, r⟩
    · exact ⟨a, rfl, .inl ⟨t0, ps, .inl (e'.trans e), k, r.mono sg⟩⟩
    · exact ⟨a, rfl, .inr ⟨t0, ps, .inl (e'.trans e), k, r.mono sg⟩⟩
  | _ => exact h.elim

/-- where nothing stood, or a tuple -/
def Fr1 (H : Hp) (b : Addr) : Prop := H b = none ∨ ∃ vs, H b = some (.tup vs)
theorem Fr1.back {H H1 : Hp} {b : Addr} (s : Sub H H1) (h : Fr1 H1 b) : Fr1 H b := by
  cases q : H b with
  | none => exact .inl q
  | some o =>
    have := s _ _ q
    rcases h with h | ⟨vs, h⟩
    · rw [h] at this; cases this
    · rw [h] at this; cases this; exact .inr ⟨vs, q⟩
theorem OwnC.nfr {K : PySem.W.Frag} {H G : Hp} {d : D} {a : Addr} (h : OwnC K H G d a) : ¬ Fr1 H a := by
  intro z
  cases d with
  | lst ds =>
    obtain ⟨vs, e, r⟩ := h
    rcases z with z | ⟨ws, z⟩ <;> rw [e] at z <;> cases z
  | dct t kvs => rcases h with ⟨t0, ps, e, k, r⟩ | ⟨t0, ps, e, k, r⟩ <;> rcases z with z | ⟨ws, z⟩ <;> rw [e] at z <;> cases z
  | _ => exact h.elim
/-- behind a step: H to H', the part G to G' -/
structure Ext (H G H' G' : Hp) : Prop where
  hh : Sub H H'
  gg : Sub G G'
  gh : Sub G' H'
  new : ∀ b, G' b ≠ none → G b ≠ none ∨ Fr1 H b
theorem Ext.refl {H G : Hp} (g : Sub G H) : Ext H G H G := ⟨Sub.refl H, Sub.refl G, g, fun _ h => .inl h⟩
theorem Ext.trans {H G H1 G1 H2 G2 : Hp} (a : Ext H G H1 G1) (b : Ext H1 G1 H2 G2) : Ext H G H2 G2 :=
  ⟨a.hh.trans b.hh, a.gg.trans b.gg, b.gh, fun c h => by
    rcases b.new c h with z | z
    · exact a.new c z
    · exact .inr (z.back a.hh)⟩
/-- a new object that all may know -/
theorem Ext.laid {H G : Hp} {p : Addr} {o : HO} (g : Sub G H) (n : H p = none) : Ext H G (upd H p o) (upd G p o) :=
  ⟨Sub.upd n, Sub.upd (g.free n), fun b u e => by
    by_cases hb : b = p
    · subst hb; rw [upd_same] at e ⊢; exact e
    · rw [upd_ne hb] at e ⊢; exact g _ _ e, fun b h => by
    by_cases hb : b = p
    · subst hb; exact .inr (.inl n)
    · rw [upd_ne hb] at h; exact .inl h⟩

/-! ### exceptions -/
/-- which class value a class's name has; its fields' values -/
structure ExcKit where
  mg : Str → Option Value
def IsExc (K : PySem.W.Frag) (mg : Str → Option Value) (c : String) (fs : List D) (cls : Value) (o : Option Addr) (H : Hp) : Prop :=
  mg (Str.ofString c) = some cls ∧ match o with
    | none => fs = []
    | some d => fs ≠ [] ∧ ∃ ps, H d = some (.xd ps) ∧ RepL K H fs (ps.map (·.2))

/-! ### names -/
abbrev Sl := Option (D × Bool)
abbrev Env := List Sl
/-- the names' values, as a reckoning sees them: those at A may be kept -/
structure EnvG (K : PySem.W.Frag) (A : Nat → Prop) (σ : L2.St) (e : Env) (H G : Hp) : Prop where
  sub : Sub G H
  len : σ.length = e.length
  val : ∀ i d o, e[i]? = some (some (d, o)) → ∃ v, σ[i]? = some (some v) ∧ (A i ∨ o = false → Rep K G d v) ∧ RepC K H G d v
theorem EnvG.ext {K : PySem.W.Frag} {A : Nat → Prop} {σ : L2.St} {e : Env} {H G H' G' : Hp} (h : EnvG K A σ e H G) (x : Ext H G H' G') : EnvG K A σ e H' G' :=
  ⟨x.gh, h.len, fun i d o hi => let ⟨v, h1, h2, h3⟩ := h.val i d o hi; ⟨v, h1, fun z => (h2 z).mono x.gg, h3.mono x.hh x.gg⟩⟩

/-- what is wanted behind a reckoning -/
def PostG (K : PySem.W.Frag) (mg : Str → Option Value) (W : Value → Option Addr → Hp → Prop) (H G : Hp) {α : Type} (r : Res α) (R : α → Hp → Hp → Prop) : Prop := match r with
  | .ok a => ∀ H' G', Ext H G H' G' → R a H' G'
  | .exc c fs => ∀ cls o H', Sub H H' → IsExc K mg c fs cls o H' → W cls o H'
  | .bad => False
section
variable {K : PySem.W.Frag} {mg : Str → Option Value} {W : Value → Option Addr → Hp → Prop} {H G H' G' : Hp} {α β : Type}
theorem PostG.ext {r : Res α} {R : α → Hp → Hp → Prop} (h : PostG K mg W H G r R) (x : Ext H G H' G') : PostG K mg W H' G' r R := by
  cases r with
  | ok a => exact fun H2 G2 y => h H2 G2 (x.trans y)
  | exc c fs => exact fun cls o H2 y z => h cls o H2 (x.hh.trans y) z
  | bad => exact h
theorem PostG.imp {r : Res α} {R R' : α → Hp → Hp → Prop} (h : PostG K mg W H G r R) (f : ∀ a H' G', Ext H G H' G' → R a H' G' → R' a H' G') : PostG K mg W H G r R' := by
  cases r with
  | ok a => exact fun H2 G2 y => f a H2 G2 y (h H2 G2 y)
  | exc c fs => exact h
  | bad => exact h
theorem PostG.split {r : Res α} {f : α → Res β} {R : β → Hp → Hp → Prop} (h : PostG K mg W H G (r.bind f) R) : PostG K mg W H G r fun a H1 G1 => PostG K mg W H1 G1 (f a) R := by
  cases r with
  | ok a => exact fun H2 G2 y => PostG.ext (r := f a) h y
  | exc c fs => exact h
  | bad => exact h
theorem PostG.val {d : D} {Q : VK} (h : PostG K mg W H G (Res.ok d) fun d H' G' => ∀ v, Rep K G' d v → Q v H') (g : Sub G H) {v : V} (r : Rep K G d v) : Q v H := h H G (Ext.refl g) v r
theorem PostG.here {a : α} {R : α → Hp → Hp → Prop} (h : PostG K mg W H G (.ok a) R) (g : Sub G H) : R a H G := h H G (Ext.refl g)
end

theorem _root_.L2.PE.imp {X : Cx} {e : Expr} {t t' : TE} (h : PE X e t) (f : ∀ σ H Q, t' σ H Q → t σ H Q) : PE X e t' := ⟨fun pins s σ H Q I q => h.run pins s σ H Q I (f σ H Q q)⟩
theorem _root_.L2.PA.imp {X : Cx} {e : List Expr} {t t' : TA} (h : PA X e t) (f : ∀ σ H Q, t' σ H Q → t σ H Q) : PA X e t' := ⟨fun pos pins s σ H Q I q => h.run pos pins s σ H Q I (f σ H Q q)⟩
theorem _root_.L2.PT.imp {X : Cx} {e : Expr} {t t' : TT} (h : PT X e t) (f : ∀ σ H Q, t' σ H Q → t σ H Q) : PT X e t' := ⟨fun pins s σ H Q I q => h.run pins s σ H Q I (f σ H Q q)⟩
theorem _root_.L2.PW.imp {X : Cx} {e : Expr} {t t' : TT} (h : PW X e t) (f : ∀ σ H Q, t' σ H Q → t σ H Q) : PW X e t' := ⟨fun wh pins s σ H Q I q => h.run wh pins s σ H Q I (f σ H Q q)⟩
theorem _root_.L2.PS.imp {X : Cx} {e : Stmt} {t t' : TS} (h : PS X e t) (f : ∀ D σ H, t' D σ H → t D σ H) : PS X e t' := ⟨fun pins s σ H D I q => h.run pins s σ H D I (f D σ H q)⟩
theorem _root_.L2.PSs.imp {X : Cx} {e : List Stmt} {t t' : TS} (h : PSs X e t) (f : ∀ D σ H, t' D σ H → t D σ H) : PSs X e t' := ⟨fun pins s σ H D I q => h.run pins s σ H D I (f D σ H q)⟩
theorem _root_.L2.PI.imp {X : Cx} {tg e : Expr} {t t' : TI} (h : PI X tg e t) (f : ∀ σ H Q, t' σ H Q → t σ H Q) : PI X tg e t' := ⟨fun pins s σ H Q I q => h.run pins s σ H Q I (f σ H Q q)⟩

/-! ### the readings -/
section
variable (K : PySem.W.Frag) (mg : Str → Option Value) (W : WX) (A : Nat → Prop)
/-- a reckoning's value, kept by whoever has it -/
def tD (f : Env → Res D) : TE := fun σ H Q => ∃ e G, EnvG K A σ e H G ∧ PostG K mg (fun c o H' => W c o σ H') H G (f e) fun d H' G' => ∀ v, Rep K G' d v → Q v H'
/-- .. read alone -/
def tR (f : Env → Res D) : TE := fun σ H Q => ∃ e G, EnvG K A σ e H G ∧ PostG K mg (fun c o H' => W c o σ H') H G (f e) fun d H' G' => ∀ v, RepC K H' G' d v → Q v H'
/-- .. new, and of none else -/
def tF (f : Env → Res D) : TE := fun σ H Q => ∃ e G, EnvG K A σ e H G ∧ PostG K mg (fun c o H' => W c o σ H') H G (f e) fun d H' G' => ∀ a, H a = none → G' a = none → OwnC K H' G' d a → Q (.ref a) H'
def tDs (f : Env → Res (List D)) : TA := fun σ H Q => ∃ e G, EnvG K A σ e H G ∧ PostG K mg (fun c o H' => W c o σ H') H G (f e) fun ds H' G' => ∀ vs, RepL K G' ds vs → Q vs H'
def tT (f : Env → Res Bool) : TT := fun σ H Q => ∃ e G, EnvG K A σ e H G ∧ PostG K mg (fun c o H' => W c o σ H') H G (f e) fun b H' G' => Q b H'
end
section
variable {X : Cx} {W : WX} {A : Nat → Prop}
abbrev DE (X : Cx) (W : WX) (A : Nat → Prop) (ex : Expr) (f : Env → Res D) : Prop := PE X ex (tD X.K X.mg W A f)
abbrev DR (X : Cx) (W : WX) (A : Nat → Prop) (ex : Expr) (f : Env → Res D) : Prop := PE X ex (tR X.K X.mg W A f)
abbrev DF (X : Cx) (W : WX) (A : Nat → Prop) (ex : Expr) (f : Env → Res D) : Prop := PE X ex (tF X.K X.mg W A f)
abbrev DA (X : Cx) (W : WX) (A : Nat → Prop) (es : List Expr) (f : Env → Res (List D)) : Prop := PA X es (tDs X.K X.mg W A f)
abbrev DT (X : Cx) (W : WX) (A : Nat → Prop) (ex : Expr) (f : Env → Res Bool) : Prop := PT X ex (tT X.K X.mg W A f)
abbrev DW (X : Cx) (W : WX) (A : Nat → Prop) (ex : Expr) (f : Env → Res Bool) : Prop := PW X ex (tT X.K X.mg W A f)
/-- kept, so read -/
theorem dr {ex : Expr} {f : Env → Res D} (h : DE X W A ex f) : DR X W A ex f :=
  h.imp fun σ H Q ⟨e, G, E, p⟩ => ⟨e, G, E, p.imp fun d H' G' x q v r => q v (r.c x.gh)⟩
theorem own_share {K : PySem.W.Frag} {H G H' G' : Hp} {d : D} {a : Addr} (x : Ext H G H' G') (ha : H a = none) (ga : G' a = none) (rc : OwnC K H' G' d a) : ∃ G2, Ext H G H' G2 ∧ Rep K G2 d (.ref a) := by
  have sg : Sub G' (fun b => if b = a then H' b else G' b) := fun b o q => by
    show (if b = a then H' b else G' b) = some o
    by_cases hb : b = a
    · subst hb; rw [ga] at q; cases q
    · rw [if_neg hb]; exact q
  have gaa : (fun b => if b = a then H' b else G' b : Hp) a = H' a := if_pos rfl
  refine ⟨fun b => if b = a then H' b else G' b, ⟨x.hh, x.gg.trans sg, fun b o q => ?_, fun b q => ?_⟩, rc.put sg gaa⟩
  · have q' : (if b = a then H' b else G' b) = some o := q
    by_cases hb : b = a
    · rw [if_pos hb] at q'; exact q'
    · rw [if_neg hb] at q'; exact x.gh _ _ q'
  · have q' : (if b = a then H' b else G' b) ≠ none := q
    by_cases hb : b = a
    · subst hb; exact .inr (.inl ha)
    · rw [if_neg hb] at q'; exact x.new b q'
/-- new, so kept -/
theorem de_of {ex : Expr} {f : Env → Res D} (h : DF X W A ex f) : DE X W A ex f :=
  h.imp fun σ H Q ⟨e, G, E, p⟩ => ⟨e, G, E, by
    cases hr : f e with
    | exc c fs => rw [hr] at p; exact p
    | bad => rw [hr] at p; exact p
    | ok d =>
      rw [hr] at p
      intro H' G' x a ha ga rc
      have sg : Sub G' (fun b => if b = a then H' b else G' b) := fun b o q => by
        show (if b = a then H' b else G' b) = some o
        by_cases hb : b = a
        · subst hb; rw [ga] at q; cases q
        · rw [if_neg hb]; exact q
      have gaa : (fun b => if b = a then H' b else G' b : Hp) a = H' a := if_pos rfl
      have y : Ext H G H' (fun b => if b = a then H' b else G' b) := ⟨x.hh, x.gg.trans sg, fun b o q => by
        have q' : (if b = a then H' b else G' b) = some o := q
        by_cases hb : b = a
        · rw [if_pos hb] at q'; exact q'
        · rw [if_neg hb] at q'; exact x.gh _ _ q', fun b q => by
        have q' : (if b = a then H' b else G' b) ≠ none := q
        by_cases hb : b = a
        · subst hb; exact .inr (.inl ha)
        · rw [if_neg hb] at q'; exact x.new b q'⟩
      exact p H' _ y (.ref a) (rc.put sg gaa)⟩

/-! ### names, constants -/
def eVar (i : Nat) : Env → Res D := fun e => match e[i]? with
  | some (some (d, _)) => .ok d
  | _ => .bad
def eC (d : D) : Env → Res D := fun _ => .ok d
theorem de_var {i : Nat} {x : Str} {pos : Pos} (hN : X.N[i]? = some x) (hv : Vis X.env.scope x) (hA : A i) (hd : (x == ("__debug__" : Str)) = false := by decide) (hcd : (x == ("__classdict__" : Str)) = false := by decide) : DE X W A (.Name x pos) (eVar i) :=
  (pe_var hN hv hd hcd).imp fun σ H Q ⟨e, G, E, p⟩ => by
    unfold eVar at p
    cases h : e[i]? with
    | none => rw [h] at p; exact p.elim
    | some s => cases s with
      | none => rw [h] at p; exact p.elim
      | some z =>
        obtain ⟨d, o⟩ := z
        rw [h] at p
        obtain ⟨v, h1, h2, h3⟩ := E.val i d o h
        exact ⟨v, h1, p.here E.sub v (h2 (.inl hA))⟩
/-- a name that is read alone -/
theorem dr_var {i : Nat} {x : Str} {pos : Pos} (hN : X.N[i]? = some x) (hv : Vis X.env.scope x) (hd : (x == ("__debug__" : Str)) = false := by decide) (hcd : (x == ("__classdict__" : Str)) = false := by decide) : DR X W A (.Name x pos) (eVar i) :=
  (pe_var hN hv hd hcd).imp fun σ H Q ⟨e, G, E, p⟩ => by
    unfold eVar at p
    cases h : e[i]? with
    | none => rw [h] at p; exact p.elim
    | some s => cases s with
      | none => rw [h] at p; exact p.elim
      | some z =>
        obtain ⟨d, o⟩ := z
        rw [h] at p
        obtain ⟨v, h1, h2, h3⟩ := E.val i d o h
        exact ⟨v, h1, p.here E.sub v h3⟩
theorem de_const {ex : Expr} {v : V} {d : D} (h : PE X ex (tC v)) (r : ∀ G, Rep X.K G d v) : DE X W A ex (eC d) :=
  h.imp fun σ H Q ⟨e, G, E, p⟩ => p.here E.sub v (r G)
theorem de_int {i j pos} : DE X W A (.Constant (.int i) j pos) (eC (.int i)) := de_const pe_int fun _ => rfl
theorem de_bl {b j pos} : DE X W A (.Constant (.bool b) j pos) (eC (.bl b)) := de_const pe_bl fun _ => rfl
theorem de_non {j pos} : DE X W A (.Constant .none j pos) (eC .non) := de_const pe_non fun _ => rfl
theorem de_str {x j pos} : DE X W A (.Constant (.str x) j pos) (eC (.str x)) := de_const pe_str fun _ => rfl
/-- a module's constant -/
theorem de_glob {x : Str} {v : V} {u : Value} {d : D} {pos : Pos} (hg : Gl X x) (hm : X.mg x = some u) (r : RelV v u) (q : ∀ G, Rep X.K G d v) (hd : (x == ("__debug__" : Str)) = false := by decide) : DE X W A (.Name x pos) (eC d) :=
  de_const (pe_glob hg hm r hd) q

/-! ### operators on two values -/
def eOp (g : D → D → Res D) (fa fb : Env → Res D) : Env → Res D := fun e => (fa e).bind fun x => (fb e).bind fun y => g x y
/-- the operation f does on data what g says -/
def OpD (X : Cx) (W : WX) (f : Value → Value → Sem Value) (g : D → D → Res D) : Prop :=
  ∃ r, OpR X f r ∧ ∀ (σ : L2.St) (H G : Hp) (x y : V) (dx dy : D) (Q : VK), Sub G H → RepC X.K H G dx x → RepC X.K H G dy y →
    PostG X.K X.mg (fun c o H' => W c o σ H') H G (g dx dy) (fun d H' G' => ∀ v, Rep X.K G' d v → Q v H') → r x y H Q
theorem op_two {r : R2} {g : D → D → Res D} {fa fb : Env → Res D} {ta tb : TE} (hta : ta = tR X.K X.mg W A fa) (htb : tb = tR X.K X.mg W A fb)
    (h : ∀ (σ : L2.St) (H G : Hp) (x y : V) (dx dy : D) (Q : VK), Sub G H → RepC X.K H G dx x → RepC X.K H G dy y →
      PostG X.K X.mg (fun c o H' => W c o σ H') H G (g dx dy) (fun d H' G' => ∀ v, Rep X.K G' d v → Q v H') → r x y H Q) (σ : L2.St) (H : Hp) (Q : VK) (q : tD X.K X.mg W A (eOp g fa fb) σ H Q) : tOp r ta tb σ H Q := by
  subst hta htb
  obtain ⟨e, G, E, p⟩ := q
  refine ⟨e, G, E, p.split.imp fun dx H1 G1 x1 p1 v rv => ?_⟩
  refine ⟨e, G1, E.ext x1, p1.split.imp fun dy H2 G2 x2 p2 u ru => ?_⟩
  exact h σ H2 G2 v u dx dy Q x2.gh (rv.mono x2.hh x2.gg) ru p2
theorem de_bin {op : Operator} {a b : Expr} {fa fb : Env → Res D} {g : D → D → Res D} {pos : Pos} (ho : OpD X W (binaryOp op) g) (ha : DR X W A a fa) (hb : DR X W A b fb) : DE X W A (.BinOp a op b pos) (eOp g fa fb) := by
  obtain ⟨r, h1, h2⟩ := ho
  exact (pe_op h1 ha hb).imp (op_two rfl rfl h2)
theorem de_cmp {op : CmpOp} {a b : Expr} {fa fb : Env → Res D} {g : D → D → Res D} {pos : Pos} (ho : OpD X W (compareOp op) g) (ha : DR X W A a fa) (hb : DR X W A b fb) (hm : behindInMarks op b = false) : DE X W A (.Compare a [op] [b] pos) (eOp g fa fb) := by
  obtain ⟨r, h1, h2⟩ := ho
  exact (pe_cmpR h1 ha hb hm).imp (op_two rfl rfl h2)
end
end DL

namespace DL
open PySem PySem.Spec PyProof.Rows L2
open PySem.Builtin.Int (intBits)

/-! ### whole numbers -/
def big : Nat := 130000000
theorem mul_ok {i j : Int} (h : intBits i + intBits j ≤ big) : IntMulOk i j := by
  have e : bitsLine = 134217728 := by decide
  unfold IntMulOk
  intro z
  rw [Bool.and_eq_true] at z
  have z2 := z.2
  unfold Builtin.Int.intTooBig at z2
  have z3 := of_decide_eq_true z2
  rw [e] at z3
  have hb : big = 130000000 := rfl
  omega
section
variable {X : Cx} {W : WX}
/-- a rule for two values, where it is told of data -/
theorem OpD.or {f : Value → Value → Sem Value} {g1 g2 : D → D → Res D} (c : D → D → Bool) (h1 : OpD X W f g1) (h2 : OpD X W f g2) : OpD X W f fun x y => if c x y = true then g1 x y else g2 x y := by
  obtain ⟨r1, o1, q1⟩ := h1
  obtain ⟨r2, o2, q2⟩ := h2
  refine ⟨_, OpR.or o1 o2, fun σ H G x y dx dy Q sg rx ry p => ?_⟩
  dsimp only at p
  by_cases hc : c dx dy = true
  · rw [if_pos hc] at p; exact .inl (q1 σ H G x y dx dy Q sg rx ry p)
  · rw [if_neg hc] at p; exact .inr (q2 σ H G x y dx dy Q sg rx ry p)
theorem OpD.congr {f : Value → Value → Sem Value} {g1 g2 : D → D → Res D} (h : OpD X W f g1) (e : ∀ x y, g2 x y = .bad ∨ g2 x y = g1 x y) : OpD X W f g2 := by
  obtain ⟨r, o, q⟩ := h
  refine ⟨r, o, fun σ H G x y dx dy Q sg rx ry p => ?_⟩
  rcases e dx dy with z | z
  · rw [z] at p; exact p.elim
  · rw [z] at p; exact q σ H G x y dx dy Q sg rx ry p

/-- ints in, an int out -/
def gI (C : Int → Int → Bool) (g : Int → Int → Int) : D → D → Res D
  | .int i, .int j => if C i j = true then .ok (.int (g i j)) else .bad
  | _, _ => .bad
def gB (g : Int → Int → Bool) : D → D → Res D
  | .int i, .int j => .ok (.bl (g i j))
  | _, _ => .bad
theorem od_I {f : Value → Value → Sem Value} {C : Int → Int → Bool} {g : Int → Int → Int}
    (rule : ∀ (i j : Int) (t u : Tok) (s : Shared) (Q : Value → Shared → Prop) (E : Value → Shared → Prop), C i j = true → Q (.int (g i j) s.toks) { s with toks := s.toks + 1 } → wpAny (model X.prog X.w) X.A (f (.int i t) (.int j u)) Q E s) :
    OpD X W f (gI C g) := by
  refine ⟨rI (fun i j => C i j = true) fun i j => .int (g i j), opI rule, fun σ H G x y dx dy Q sg rx ry p => ?_⟩
  cases dx with
  | int i =>
    cases dy with
    | int j =>
      have rx' : x = .int i := rx
      have ry' : y = .int j := ry
      dsimp only [gI] at p
      by_cases hc : C i j = true
      · rw [if_pos hc] at p
        exact ⟨i, j, rx', ry', hc, p.here sg _ rfl⟩
      · rw [if_neg hc] at p
        exact p.elim
    | _ => exact (show False from p).elim
  | _ => cases dy <;> exact (show False from p).elim
theorem od_B {f : Value → Value → Sem Value} {g : Int → Int → Bool} (o : OpR X f (rI0 fun i j => .bl (g i j))) : OpD X W f (gB g) := by
  refine ⟨_, o, fun σ H G x y dx dy Q sg rx ry p => ?_⟩
  cases dx with
  | int i =>
    cases dy with
    | int j => exact ⟨i, j, rx, ry, PostG.val (d := .bl (g i j)) p sg rfl⟩
    | _ => exact (show False from p).elim
  | _ => cases dy <;> exact (show False from p).elim

def cT : Int → Int → Bool := fun _ _ => true
def cMul : Int → Int → Bool := fun i j => decide (intBits i + intBits j ≤ big)
def cDiv : Int → Int → Bool := fun _ j => decide (j ≠ 0 ∧ j.natAbs.log2 < 9000)
def cMod : Int → Int → Bool := fun _ j => decide (j ≠ 0)
def cPow : Int → Int → Bool := fun i j => decide (0 ≤ j ∧ (intBits i : Int) * j ≤ 2 ^ 27)
def cShr : Int → Int → Bool := fun _ j => decide (0 ≤ j)
theorem od_subI : OpD X W (binaryOp .Sub) (gI cT fun i j => i - j) := od_I fun _ _ _ _ _ _ _ _ q => sub_int q
theorem od_addI : OpD X W (binaryOp .Add) (gI cT fun i j => i + j) := od_I fun _ _ _ _ _ _ _ _ q => add_int q
theorem od_mulI : OpD X W (binaryOp .Mult) (gI cMul fun i j => i * j) := od_I fun _ _ _ _ _ _ _ c q => mul_int q (mul_ok (of_decide_eq_true c))
theorem od_divI : OpD X W (binaryOp .FloorDiv) (gI cDiv fun i j => i.fdiv j) := od_I fun _ _ _ _ _ _ _ c q =>
  have c' := of_decide_eq_true c
  floordiv_int c'.1 q (.inl (PyProof.noPylong_of_log2 c'.2))
theorem od_modI : OpD X W (binaryOp .Mod) (gI cMod fun i j => i.fmod j) := od_I fun _ _ _ _ _ _ _ c q => mod_int' (of_decide_eq_true c) q
theorem od_powI : OpD X W (binaryOp .Pow) (gI cPow fun i j => i ^ j.toNat) := od_I fun _ _ _ _ _ _ _ c q =>
  have c' := of_decide_eq_true c
  pow_int c'.1 c'.2 q
theorem od_shrI : OpD X W (binaryOp .RShift) (gI cShr fun i j => i / 2 ^ j.toNat) := od_I fun i j _ _ _ _ _ c q =>
  rshift_int (of_decide_eq_true c) (by rw [Int.fdiv_eq_ediv_of_nonneg i (two_pow_nn _)]; exact q)

/-! ### + of texts, tuples, lists -/
def dAdd : D → D → Res D
  | .int i, .int j => .ok (.int (i + j))
  | .str a, .str b => if a.length + b.length ≤ sizeLine then .ok (.str (a ++ b)) else .bad
  | .tup a, .tup b => if a.length + b.length ≤ sizeLine then .ok (.tup (a ++ b)) else .bad
  | .lst a, .lst b => if a.length + b.length ≤ sizeLine then .ok (.lst (a ++ b)) else .bad
  | _, _ => .bad
/-- a + b of lists that are read -/
def rCatR (K : PySem.W.Frag) : R2 := fun x y H Q => ∃ l b xs zs, x = .ref l ∧ y = .ref b ∧ SqL K H l xs ∧ SqL K H b zs ∧ xs.length + zs.length ≤ sizeLine ∧ ∀ p, H p = none → Q (.ref p) (upd H p (.lst (xs ++ zs)))
theorem op_catR : OpR X (binaryOp .Add) (rCatR X.K) := by
  intro pins s σ H x y v u Q I rx ry h
  obtain ⟨l, b, xs, zs, rfl, rfl, hH, hB, hz, q⟩ := h
  cases rx
  cases ry
  obtain ⟨its, r, ⟨⟨cls, dd, data, sl⟩, n, ho, hc, hdd, hd⟩, _⟩ := I.list hH
  obtain ⟨its2, r2, ⟨⟨cls2, dd2, data2, sl2⟩, n2, ho2, hc2, hdd2, hd2⟩, _⟩ := I.list hB
  simp only at hc hd hc2 hd2
  subst hc hd hc2 hd2
  have l1 := r.length
  have l2 := r2.length
  have e : its.toArray ++ its2.toArray = (its ++ its2).toArray := by simp
  refine concat_meets ⟨_, ho, rfl⟩ ⟨_, ho2, rfl⟩ noFill_list_add seq_list_add PySem.F.slot_list_add PySem.F.entry_list_add (PySem.F.args_list_add_2 _ _) (list_addW l b its.toArray its2.toArray n n2 dd dd2 sl sl2 (by simp; omega)) ⟨ho, ho2, ?_⟩
  rw [e]
  exact ⟨.ref _, _, I.lnew (t' := s.toks) (r.append r2) (by rw [List.length_append]; omega), rfl, q _ I.fresh⟩
theorem op_addS' : OpR X (binaryOp .Add) (fun x y H Q => ∃ i j, x = .str i ∧ y = .str j ∧ i.length + j.length ≤ sizeLine ∧ Q (.str (i ++ j)) H) := op_add_str
theorem od_add : OpD X W (binaryOp .Add) dAdd := by
  refine ⟨_, OpR.or op_add (OpR.or op_addS' (OpR.or op_catA op_catR)), fun σ H G x y dx dy Q sg rx ry p => ?_⟩
  cases dx with
  | int i =>
    cases dy with
    | int j => exact .inl ⟨i, j, rx, ry, PostG.val (d := .int (i + j)) p sg rfl⟩
    | _ => exact (show False from p).elim
  | str i =>
    cases dy with
    | str j =>
      dsimp only [dAdd] at p
      by_cases hc : i.length + j.length ≤ sizeLine
      · rw [if_pos hc] at p
        exact .inr (.inl ⟨i, j, rx, ry, hc, p.here sg _ rfl⟩)
      · rw [if_neg hc] at p; exact p.elim
    | _ => exact (show False from p).elim
  | tup i =>
    cases dy with
    | tup j =>
      dsimp only [dAdd] at p
      by_cases hc : i.length + j.length ≤ sizeLine
      · rw [if_pos hc] at p
        obtain ⟨a, vs, e1, s1, r1⟩ := (show Rep X.K G (.tup i) x from rx)
        obtain ⟨b, ws, e2, s2, r2⟩ := (show Rep X.K G (.tup j) y from ry)
        refine .inr (.inr (.inl ⟨a, b, vs, ws, e1, e2, sg.pt s1, sg.pt s2, by rw [r1.length, r2.length]; exact hc, fun z => ?_, fun z1 z2 => ?_, fun z1 z2 q hq => ?_⟩))
        · subst z
          refine p.here sg _ ⟨b, ws, rfl, s2, ?_⟩
          cases i with
          | nil => exact r2
          | cons d ds => obtain ⟨_, _, e, _⟩ := r1; cases e
        · subst z2
          refine p.here sg _ ⟨a, vs, rfl, s1, ?_⟩
          cases j with
          | nil => rw [List.append_nil]; exact r1
          | cons d ds => obtain ⟨_, _, e, _⟩ := r2; cases e
        · exact p _ _ (Ext.laid sg hq) _ ⟨q, _, rfl, upd_same, (r1.append r2).mono (Sub.upd (sg.free hq))⟩
      · rw [if_neg hc] at p; exact p.elim
    | _ => exact (show False from p).elim
  | lst i =>
    cases dy with
    | lst j =>
      dsimp only [dAdd] at p
      by_cases hc : i.length + j.length ≤ sizeLine
      · rw [if_pos hc] at p
        obtain ⟨a, vs, e1, s1, r1⟩ := rx
        obtain ⟨b, ws, e2, s2, r2⟩ := ry
        refine .inr (.inr (.inr ⟨a, b, vs, ws, e1, e2, s1, s2, by rw [r1.length, r2.length]; exact hc, fun q hq => ?_⟩))
        exact p _ _ (Ext.laid sg hq) _ ⟨q, _, rfl, SqL.of upd_same, (r1.append r2).mono (Sub.upd (sg.free hq))⟩
      · rw [if_neg hc] at p; exact p.elim
    | _ => exact (show False from p).elim
  | _ => exact (show False from p).elim

/-! ### * -/
def dMul : D → D → Res D
  | .int i, .int j => if intBits i + intBits j ≤ big then .ok (.int (i * j)) else .bad
  | _, _ => .bad
theorem od_mul : OpD X W (binaryOp .Mult) dMul := od_mulI.congr fun x y => by
  cases x <;> cases y <;> first
    | exact .inl rfl
    | exact .inr (by simp [dMul, gI, cMul])
def dSub : D → D → Res D
  | .int i, .int j => .ok (.int (i - j))
  | _, _ => .bad
theorem od_sub : OpD X W (binaryOp .Sub) dSub := od_subI.congr fun x y => by
  cases x <;> cases y <;> first
    | exact .inl rfl
    | exact .inr (by simp [dSub, gI, cT])
def dDiv : D → D → Res D
  | .int i, .int j => if j ≠ 0 ∧ j.natAbs.log2 < 9000 then .ok (.int (i.fdiv j)) else .bad
  | _, _ => .bad
theorem od_div : OpD X W (binaryOp .FloorDiv) dDiv := od_divI.congr fun x y => by
  cases x <;> cases y <;> first
    | exact .inl rfl
    | exact .inr (by simp [dDiv, gI, cDiv])
def dMod : D → D → Res D
  | .int i, .int j => if j ≠ 0 then .ok (.int (i.fmod j)) else .bad
  | _, _ => .bad
theorem od_mod : OpD X W (binaryOp .Mod) dMod := od_modI.congr fun x y => by
  cases x <;> cases y <;> first
    | exact .inl rfl
    | exact .inr (by simp [dMod, gI, cMod])
def dPow : D → D → Res D
  | .int i, .int j => if 0 ≤ j ∧ (intBits i : Int) * j ≤ 2 ^ 27 then .ok (.int (i ^ j.toNat)) else .bad
  | _, _ => .bad
theorem od_pow : OpD X W (binaryOp .Pow) dPow := od_powI.congr fun x y => by
  cases x <;> cases y <;> first
    | exact .inl rfl
    | exact .inr (by simp [dPow, gI, cPow])

end

/-! ### == of data -/
mutual
def D.py : D → PyData
  | .non => .none
  | .bl b => .bool b
  | .int i => .int i
  | .str x => .str x
  | .obj _ => .none
  | .tup xs => .tuple (D.pys xs)
  | .lst xs => .list (D.pys xs)
  | .dct _ _ => .none
  | .con xs => .tuple (D.pys xs)
def D.pys : List D → List PyData
  | [] => []
  | d :: r => D.py d :: D.pys r
end
mutual
/-- without dicts and objects; texts that are texts; at most so deep -/
def D.pl : D → Nat → Bool
  | .non, _ => true
  | .bl _, _ => true
  | .int _, _ => true
  | .str x, _ => PyData.strOk x
  | .obj _, _ => false
  | .tup xs, n => match n with
    | 0 => false
    | n + 1 => D.pls xs n
  | .lst xs, n => match n with
    | 0 => false
    | n + 1 => D.pls xs n
  | .dct _ _, _ => false
  | .con xs, n => match n with
    | 0 => false
    | n + 1 => D.pls xs n
def D.pls : List D → Nat → Bool
  | [], _ => true
  | d :: r, n => D.pl d n && D.pls r n
end
mutual
theorem py_can : ∀ (d : D) (n : Nat), d.pl n = true → d.py.canLay0 = true ∧ d.py.depth ≤ n
  | .non, n, _ => ⟨by simp [D.py, PyData.canLay0], by simp [D.py, PyData.depth]⟩
  | .bl _, n, _ => ⟨by simp [D.py, PyData.canLay0], by simp [D.py, PyData.depth]⟩
  | .int _, n, _ => ⟨by simp [D.py, PyData.canLay0], by simp [D.py, PyData.depth]⟩
  | .str _, n, h => ⟨by simpa [D.py, PyData.canLay0, D.pl] using h, by simp [D.py, PyData.depth]⟩
  | .obj _, n, h => by simp [D.pl] at h
  | .dct _ _, n, h => by simp [D.pl] at h
  | .con xs, 0, h => by simp [D.pl] at h
  | .con xs, n + 1, h => by
    have := pys_can xs n (by simpa [D.pl] using h)
    exact ⟨by simpa [D.py, PyData.canLay0] using this.1, by simp [D.py, PyData.depth]; exact this.2⟩
  | .tup xs, 0, h => by simp [D.pl] at h
  | .lst xs, 0, h => by simp [D.pl] at h
  | .tup xs, n + 1, h => by
    have := pys_can xs n (by simpa [D.pl] using h)
    exact ⟨by simpa [D.py, PyData.canLay0] using this.1, by simp [D.py, PyData.depth]; exact this.2⟩
  | .lst xs, n + 1, h => by
    have := pys_can xs n (by simpa [D.pl] using h)
    exact ⟨by simpa [D.py, PyData.canLay0] using this.1, by simp [D.py, PyData.depth]; exact this.2⟩
theorem pys_can : ∀ (ds : List D) (n : Nat), D.pls ds n = true → PyData.canLayAll0 (D.pys ds) = true ∧ PyData.depthAll (D.pys ds) ≤ n
  | [], n, _ => ⟨by simp [D.pys, PyData.canLayAll0], by simp [D.pys, PyData.depthAll]⟩
  | d :: r, n, h => by
    have h' : d.pl n = true ∧ D.pls r n = true := by simpa [D.pls] using h
    have a := py_can d n h'.1
    have b := pys_can r n h'.2
    exact ⟨by simp [D.pys, PyData.canLayAll0, a.1, b.1], by simp only [D.pys, PyData.depthAll]; omega⟩
end
mutual
theorem Rep.dp {K : PySem.W.Frag} {H : Hp} : ∀ (d : D) (n : Nat) (v : V), d.pl n = true → Rep K H d v → Dp K H v d.py
  | .non, n, v, _, r => by rw [show v = .non from r]; exact .non
  | .bl b, n, v, _, r => by rw [show v = .bl b from r]; exact .bl b
  | .int i, n, v, _, r => by rw [show v = .int i from r]; exact .int i
  | .str x, n, v, _, r => by rw [show v = .str x from r]; exact .str x
  | .obj _, n, v, h, r => by simp [D.pl] at h
  | .dct _ _, n, v, h, r => by simp [D.pl] at h
  | .con xs, 0, v, h, r => by simp [D.pl] at h
  | .con xs, n + 1, v, h, r => by
    obtain ⟨a, vs, e, s, q⟩ := r
    subst e
    exact .tup s (RepL.dp xs n vs (by simpa [D.pl] using h) q)
  | .tup xs, 0, v, h, r => by simp [D.pl] at h
  | .lst xs, 0, v, h, r => by simp [D.pl] at h
  | .tup xs, n + 1, v, h, r => by
    obtain ⟨a, vs, e, s, q⟩ := r
    subst e
    exact .tup (SqT.of s) (RepL.dp xs n vs (by simpa [D.pl] using h) q)
  | .lst xs, n + 1, v, h, r => by
    obtain ⟨a, vs, e, s, q⟩ := r
    subst e
    exact .lst s (RepL.dp xs n vs (by simpa [D.pl] using h) q)
theorem RepL.dp {K : PySem.W.Frag} {H : Hp} : ∀ (ds : List D) (n : Nat) (vs : List V), D.pls ds n = true → RepL K H ds vs → DpAll K H vs (D.pys ds)
  | [], n, vs, _, r => by rw [show vs = [] from r]; exact .nil
  | d :: ds, n, vs, h, r => by
    obtain ⟨v, t, e, a, b⟩ := r
    subst e
    have h' : d.pl n = true ∧ D.pls ds n = true := by simpa [D.pls] using h
    exact .cons (Rep.dp d n v h'.1 a) (RepL.dp ds n t h'.2 b)
end
theorem shaped_py {d : D} {n : Nat} (h : d.pl n = true) (hn : n ≤ 64) : SeqAt.shaped d.py = true := by
  have := py_can d n h
  unfold SeqAt.shaped
  rw [this.1, decide_eq_true (by omega : d.py.depth ≤ 64)]
  rfl
def D.beq (x y : D) : Bool := PyData.eqv x.py y.py
def dEq : D → D → Res D
  | .str a, .str b => .ok (.bl (decide (a = b)))
  | x, y => if x.pl 60 = true ∧ y.pl 60 = true then .ok (.bl (D.beq x y)) else .bad
def dNe : D → D → Res D
  | .str a, .str b => .ok (.bl (!decide (a = b)))
  | x, y => if x.pl 60 = true ∧ y.pl 60 = true then .ok (.bl (!D.beq x y)) else .bad
section
variable {X : Cx} {W : WX}
theorem od_eq (hu : X.A.units + 64 < cLine) : OpD X W (compareOp .Eq) dEq := by
  refine ⟨_, OpR.or op_eq (op_eqD hu), fun σ H G x y dx dy Q sg rx ry p => ?_⟩
  have gen : PostG X.K X.mg (fun c o H' => W c o σ H') H G (if dx.pl 60 = true ∧ dy.pl 60 = true then .ok (.bl (D.beq dx dy)) else .bad) (fun d H' G' => ∀ v, Rep X.K G' d v → Q v H') → rEq x y H Q ∨ rEqD X.K x y H Q := fun p => by
    by_cases hc : dx.pl 60 = true ∧ dy.pl 60 = true
    · rw [if_pos hc] at p
      exact .inr ⟨dx.py, dy.py, Rep.dp dx 60 x hc.1 (rx.all sg), Rep.dp dy 60 y hc.2 (ry.all sg), shaped_py hc.1 (by decide), shaped_py hc.2 (by decide), p.here sg _ rfl⟩
    · rw [if_neg hc] at p; exact p.elim
  cases dx with
  | str a =>
    cases dy with
    | str b =>
      have rx' : x = .str a := rx
      have ry' : y = .str b := ry
      subst rx' ry'
      refine .inl ⟨rfl, ?_⟩
      have q : Q (.bl (decide (a = b))) H := PostG.val (d := .bl (decide (a = b))) p sg rfl
      have e : decide (V.str a = V.str b) = decide (a = b) := by simp
      rw [e]; exact q
    | _ => exact gen p
  | _ => exact gen p
theorem od_ne (hu : X.A.units + 64 < cLine) : OpD X W (compareOp .NotEq) dNe := by
  refine ⟨_, OpR.or op_ne (op_neD hu), fun σ H G x y dx dy Q sg rx ry p => ?_⟩
  have gen : PostG X.K X.mg (fun c o H' => W c o σ H') H G (if dx.pl 60 = true ∧ dy.pl 60 = true then .ok (.bl (!D.beq dx dy)) else .bad) (fun d H' G' => ∀ v, Rep X.K G' d v → Q v H') → rNe x y H Q ∨ rNeD X.K x y H Q := fun p => by
    by_cases hc : dx.pl 60 = true ∧ dy.pl 60 = true
    · rw [if_pos hc] at p
      exact .inr ⟨dx.py, dy.py, Rep.dp dx 60 x hc.1 (rx.all sg), Rep.dp dy 60 y hc.2 (ry.all sg), shaped_py hc.1 (by decide), shaped_py hc.2 (by decide), p.here sg _ rfl⟩
    · rw [if_neg hc] at p; exact p.elim
  cases dx with
  | str a =>
    cases dy with
    | str b =>
      have rx' : x = .str a := rx
      have ry' : y = .str b := ry
      subst rx' ry'
      refine .inl ⟨rfl, ?_⟩
      have q : Q (.bl (!decide (a = b))) H := PostG.val (d := .bl (!decide (a = b))) p sg rfl
      have e : decide (V.str a = V.str b) = decide (a = b) := by simp
      rw [e]; exact q
    | _ => exact gen p
  | _ => exact gen p
end
/-! ### < of data -/
/-- the two can be compared -/
def D.cmpb (x y : D) : Bool := x.pl 60 && y.pl 60 && PySem.W.alike x.py y.py && (match x with | .non => false | _ => true)
/-- x < y, of data that can be compared -/
def D.lt (x y : D) : Bool := PySem.W.dataLt x.py y.py
def cmpD (f : D → D → Bool) (x y : D) : Res D := if D.cmpb x y = true then .ok (.bl (f x y)) else .bad
def dLt : D → D → Res D
  | .int i, .int j => .ok (.bl (decide (i < j)))
  | x, y => cmpD (fun x y => D.lt x y) x y
def dLe : D → D → Res D
  | .int i, .int j => .ok (.bl (decide (i ≤ j)))
  | x, y => cmpD (fun x y => !D.lt y x) x y
def dGt : D → D → Res D
  | .int i, .int j => .ok (.bl (decide (j < i)))
  | x, y => cmpD (fun x y => D.lt y x) x y
def dGe : D → D → Res D
  | .int i, .int j => .ok (.bl (decide (j ≤ i)))
  | x, y => cmpD (fun x y => !D.lt x y) x y
def rCmpD (K : PySem.W.Frag) (f : PyData → PyData → Bool) : R2 := fun x y H Q => ∃ d e, Dp K H x d ∧ Dp K H y e ∧ SeqAt.shaped d = true ∧ SeqAt.shaped e = true ∧ PySem.W.alike d e = true ∧ d ≠ .none ∧ Q (.bl (f d e)) H
theorem shaped_depth {d : PyData} (h : SeqAt.shaped d = true) : d.depth ≤ 64 := by
  unfold SeqAt.shaped at h
  rw [Bool.and_eq_true] at h
  exact of_decide_eq_true h.2
section
variable {X : Cx} {W : WX}
theorem op_ltD (hu : X.A.units + 64 < cLine) : OpR X (compareOp .Lt) (rCmpD X.K PySem.W.dataLt) := by
  intro pins s σ H x y v u Q I rx ry h
  obtain ⟨d, e, hd, he, sd, se, al, nn, q⟩ := h
  obtain ⟨as, r1⟩ := Dp.reads I d x v hd rx
  obtain ⟨bs, r2⟩ := Dp.reads I e y u he ry
  have := shaped_depth sd
  exact PySem.W.lt_data r1 r2 al nn (by omega) ⟨.bl _, H, I, rfl, q⟩
theorem op_gtD (hu : X.A.units + 64 < cLine) : OpR X (compareOp .Gt) (rCmpD X.K fun d e => PySem.W.dataLt e d) := by
  intro pins s σ H x y v u Q I rx ry h
  obtain ⟨d, e, hd, he, sd, se, al, nn, q⟩ := h
  obtain ⟨as, r1⟩ := Dp.reads I d x v hd rx
  obtain ⟨bs, r2⟩ := Dp.reads I e y u he ry
  have := shaped_depth sd
  exact PySem.W.gt_data r1 r2 al nn (by omega) ⟨.bl _, H, I, rfl, q⟩
theorem op_leD (hu : X.A.units + 64 < cLine) : OpR X (compareOp .LtE) (rCmpD X.K fun d e => !PySem.W.dataLt e d) := by
  intro pins s σ H x y v u Q I rx ry h
  obtain ⟨d, e, hd, he, sd, se, al, nn, q⟩ := h
  obtain ⟨as, r1⟩ := Dp.reads I d x v hd rx
  obtain ⟨bs, r2⟩ := Dp.reads I e y u he ry
  have := shaped_depth sd
  exact PySem.W.le_data r1 r2 al nn (by omega) ⟨.bl _, H, I, rfl, q⟩
theorem op_geD (hu : X.A.units + 64 < cLine) : OpR X (compareOp .GtE) (rCmpD X.K fun d e => !PySem.W.dataLt d e) := by
  intro pins s σ H x y v u Q I rx ry h
  obtain ⟨d, e, hd, he, sd, se, al, nn, q⟩ := h
  obtain ⟨as, r1⟩ := Dp.reads I d x v hd rx
  obtain ⟨bs, r2⟩ := Dp.reads I e y u he ry
  have := shaped_depth sd
  exact PySem.W.ge_data r1 r2 al nn (by omega) ⟨.bl _, H, I, rfl, q⟩
theorem cmp_rep {K : PySem.W.Frag} {H G : Hp} {x y : V} {dx dy : D} (sg : Sub G H) (hc : D.cmpb dx dy = true) (rx : RepC K H G dx x) (ry : RepC K H G dy y) :
    Dp K H x dx.py ∧ Dp K H y dy.py ∧ SeqAt.shaped dx.py = true ∧ SeqAt.shaped dy.py = true ∧ PySem.W.alike dx.py dy.py = true ∧ dx.py ≠ .none := by
  unfold D.cmpb at hc
  simp only [Bool.and_eq_true] at hc
  obtain ⟨⟨⟨h1, h2⟩, h3⟩, h4⟩ := hc
  refine ⟨Rep.dp dx 60 x h1 (rx.all sg), Rep.dp dy 60 y h2 (ry.all sg), shaped_py h1 (by decide), shaped_py h2 (by decide), h3, ?_⟩
  cases dx with
  | non => cases h4
  | obj _ => simp [D.pl] at h1
  | dct _ _ => simp [D.pl] at h1
  | _ => simp [D.py]
theorem od_cmp {op : CmpOp} {g : D → D → Res D} {gi : Int → Int → Bool} {f : D → D → Bool} {fp : PyData → PyData → Bool} (o1 : OpR X (compareOp op) (rI0 fun i j => .bl (gi i j))) (o2 : OpR X (compareOp op) (rCmpD X.K fp)) (hf : ∀ x y, f x y = fp x.py y.py)
    (hg : ∀ x y, (∃ i j, x = .int i ∧ y = .int j ∧ g x y = .ok (.bl (gi i j))) ∨ g x y = cmpD f x y) : OpD X W (compareOp op) g := by
  refine ⟨_, OpR.or o1 o2, fun σ H G x y dx dy Q sg rx ry p => ?_⟩
  rcases hg dx dy with ⟨i, j, e1, e2, e3⟩ | e
  · subst e1 e2
    rw [e3] at p
    exact .inl ⟨i, j, rx, ry, PostG.val (d := .bl (gi i j)) p sg rfl⟩
  · rw [e] at p
    unfold cmpD at p
    by_cases hc : D.cmpb dx dy = true
    · rw [if_pos hc] at p
      obtain ⟨a1, a2, a3, a4, a5, a6⟩ := cmp_rep sg hc rx ry
      refine .inr ⟨_, _, a1, a2, a3, a4, a5, a6, ?_⟩
      rw [← hf]
      exact p.here sg _ rfl
    · rw [if_neg hc] at p; exact p.elim
theorem od_lt (hu : X.A.units + 64 < cLine) : OpD X W (compareOp .Lt) dLt := od_cmp op_lt (op_ltD hu) (fun _ _ => rfl) fun x y => by
  cases x <;> cases y <;> first
    | exact .inl ⟨_, _, rfl, rfl, rfl⟩
    | exact .inr rfl
theorem od_le (hu : X.A.units + 64 < cLine) : OpD X W (compareOp .LtE) dLe := od_cmp op_le (op_leD hu) (fun _ _ => rfl) fun x y => by
  cases x <;> cases y <;> first
    | exact .inl ⟨_, _, rfl, rfl, rfl⟩
    | exact .inr rfl
theorem od_gt (hu : X.A.units + 64 < cLine) : OpD X W (compareOp .Gt) dGt := od_cmp op_gt (op_gtD hu) (fun _ _ => rfl) fun x y => by
  cases x <;> cases y <;> first
    | exact .inl ⟨_, _, rfl, rfl, rfl⟩
    | exact .inr rfl
theorem od_ge (hu : X.A.units + 64 < cLine) : OpD X W (compareOp .GtE) dGe := od_cmp op_ge (op_geD hu) (fun _ _ => rfl) fun x y => by
  cases x <;> cases y <;> first
    | exact .inl ⟨_, _, rfl, rfl, rfl⟩
    | exact .inr rfl
end
end DL

namespace DL
open PySem PySem.Spec PyProof.Rows L2
open PySem.Builtin.Int (intBits)

/-! ### tests -/
def D.asB : D → Res Bool
  | .bl b => .ok b
  | _ => .bad
/-- a value's truth -/
def D.truth : D → Res Bool
  | .non => .ok false
  | .bl b => .ok b
  | .int i => .ok (i != 0)
  | .str x => if x.length ≤ sizeLine then .ok ((x.length : Int) != 0) else .bad
  | .lst xs => .ok (!xs.isEmpty)
  | .tup xs => .ok (!xs.isEmpty)
  | _ => .bad
def bTest (g : D → D → Res D) (fa fb : Env → Res D) : Env → Res Bool := fun e => (fa e).bind fun x => (fb e).bind fun y => (g x y).bind D.asB
def bTruth (f : Env → Res D) : Env → Res Bool := fun e => (f e).bind D.truth
def bAnd (fa fb : Env → Res Bool) : Env → Res Bool := fun e => (fa e).bind fun b => if b = true then fb e else .ok false
def bOr (fa fb : Env → Res Bool) : Env → Res Bool := fun e => (fa e).bind fun b => if b = true then .ok true else fb e
def bNot (fa : Env → Res Bool) : Env → Res Bool := fun e => (fa e).bind fun b => .ok (!b)
section
variable {X : Cx} {W : WX} {A : Nat → Prop} {a b : Expr} {rest : List Expr} {pos : Pos}
theorem dt_cmp {op : CmpOp} {fa fb : Env → Res D} {g : D → D → Res D} (ho : OpD X W (compareOp op) g) (ha : DR X W A a fa) (hb : DR X W A b fb) (hm : behindInMarks op b = false) : DT X W A (.Compare a [op] [b] pos) (bTest g fa fb) := by
  obtain ⟨r, h1, h2⟩ := ho
  refine (pt_cmpR h1 ha hb hm).imp fun σ H Q ⟨e, G, E, p⟩ => ?_
  refine ⟨e, G, E, p.split.imp fun dx H1 G1 x1 p1 v rv => ⟨e, G1, E.ext x1, p1.split.imp fun dy H2 G2 x2 p2 u ru => ?_⟩⟩
  refine h2 σ H2 G2 v u dx dy _ x2.gh (rv.mono x2.hh x2.gg) ru (p2.split.imp fun d H3 G3 x3 p3 z rz => ?_)
  cases d with
  | bl k => exact ⟨k, rz, p3.here x3.gh⟩
  | _ => exact (show False from p3).elim
theorem truth_v {K : PySem.W.Frag} {H G : Hp} {d : D} {v : V} {k : Bool} (g : Sub G H) (r : RepC K H G d v) (h : d.truth = .ok k) : TruV K v H k := by
  cases d with
  | non => have : v = .non := r; subst this; cases h; rfl
  | bl b => have : v = .bl b := r; subst this; cases h; rfl
  | int i => have : v = .int i := r; subst this; cases h; rfl
  | str x =>
    have : v = .str x := r
    subst this
    dsimp only [D.truth] at h
    by_cases hc : x.length ≤ sizeLine
    · rw [if_pos hc] at h; cases h; exact ⟨hc, rfl⟩
    · rw [if_neg hc] at h; cases h
  | lst xs =>
    obtain ⟨p, vs, e, s, q⟩ := r
    subst e
    cases h
    refine .inl ⟨vs, s, ?_⟩
    have := q.length
    cases vs <;> cases xs <;> simp at this ⊢
  | tup xs =>
    obtain ⟨p, vs, e, s, q⟩ := (show Rep K G (.tup xs) v from r)
    subst e
    cases h
    refine .inr (.inl ⟨vs, g.pt s, ?_⟩)
    have := q.length
    cases vs <;> cases xs <;> simp at this ⊢
  | obj _ => cases h
  | con _ => cases h
  | dct _ _ => cases h
theorem dt_truth {f : Env → Res D} (ha : DR X W A a f) (he : ∀ whole, isTrue a X.env whole = (do let v ← whole; standAt a.pos; holding [v] (truthy v))) : DT X W A a (bTruth f) :=
  (pt_truth ha he).imp fun σ H Q ⟨e, G, E, p⟩ => ⟨e, G, E, p.split.imp fun d H1 G1 x1 p1 v rv => by
    cases ht : d.truth with
    | ok k => rw [ht] at p1; exact ⟨k, truth_v x1.gh rv ht, p1.here x1.gh⟩
    | exc c fs => exact absurd ht (by cases d <;> simp [D.truth] <;> split <;> simp)
    | bad => rw [ht] at p1; exact p1.elim⟩
theorem dw_and1 {fa : Env → Res Bool} (ha : DT X W A a fa) : DW X W A (.BoolOp .And [a] pos) fa := pw_and1 ha
theorem dw_or1 {fa : Env → Res Bool} (ha : DT X W A a fa) : DW X W A (.BoolOp .Or [a] pos) fa := pw_or1 ha
theorem dw_and {fa fb : Env → Res Bool} (ha : DT X W A a fa) (hb : DW X W A (.BoolOp .And (b :: rest) pos) fb) : DW X W A (.BoolOp .And (a :: b :: rest) pos) (bAnd fa fb) :=
  (pw_and ha hb).imp fun σ H Q ⟨e, G, E, p⟩ => ⟨e, G, E, p.split.imp fun k H1 G1 x1 p1 => by
    cases k with
    | true => rw [if_pos rfl] at p1 ⊢; exact ⟨e, G1, E.ext x1, p1⟩
    | false => rw [if_neg Bool.false_ne_true] at p1 ⊢; exact p1.here x1.gh⟩
theorem dw_or {fa fb : Env → Res Bool} (ha : DT X W A a fa) (hb : DW X W A (.BoolOp .Or (b :: rest) pos) fb) : DW X W A (.BoolOp .Or (a :: b :: rest) pos) (bOr fa fb) :=
  (pw_or ha hb).imp fun σ H Q ⟨e, G, E, p⟩ => ⟨e, G, E, p.split.imp fun k H1 G1 x1 p1 => by
    cases k with
    | true => rw [if_pos rfl] at p1 ⊢; exact p1.here x1.gh
    | false => rw [if_neg Bool.false_ne_true] at p1 ⊢; exact ⟨e, G1, E.ext x1, p1⟩⟩
theorem dt_w {f : Env → Res Bool} (h : DW X W A a f) : DT X W A a f := h.pt
theorem dt_not {fa : Env → Res Bool} (ha : DT X W A a fa) : DT X W A (.UnaryOp .Not a pos) (bNot fa) :=
  (pt_not ha).imp fun σ H Q ⟨e, G, E, p⟩ => ⟨e, G, E, p.split.imp fun k H1 G1 x1 p1 => p1.here x1.gh⟩

/-! ### and, or, not, if-else as values -/
def eAnd (fa fb : Env → Res D) : Env → Res D := fun e => (fa e).bind fun x => (D.asB x).bind fun b => if b = true then fb e else .ok (.bl false)
def eOr (fa fb : Env → Res D) : Env → Res D := fun e => (fa e).bind fun x => (D.asB x).bind fun b => if b = true then .ok (.bl true) else fb e
def eNot (fa : Env → Res D) : Env → Res D := fun e => (fa e).bind fun x => (D.asB x).bind fun b => .ok (.bl (!b))
def eNeg (fa : Env → Res D) : Env → Res D := fun e => (fa e).bind fun x => match x with
  | .int i => .ok (.int (-i))
  | _ => .bad
def eIf (ft : Env → Res Bool) (fa fb : Env → Res D) : Env → Res D := fun e => (ft e).bind fun b => if b = true then fa e else fb e
theorem asB_of {K : PySem.W.Frag} {mg : Str → Option Value} {W : Value → Option Addr → Hp → Prop} {H G : Hp} {d : D} {α : Type} {f : Bool → Res α} {R : α → Hp → Hp → Prop} (p : PostG K mg W H G ((D.asB d).bind f) R) : ∃ b, d = .bl b ∧ PostG K mg W H G (f b) R := by
  cases d with
  | bl b => exact ⟨b, rfl, p⟩
  | _ => exact (show False from p).elim
theorem de_one {op} {f : Env → Res D} (h : DE X W A a f) : DE X W A (.BoolOp op [a] pos) f := pe_one h
theorem de_and {fa fb : Env → Res D} (ha : DE X W A a fa) (hb : DE X W A (.BoolOp .And (b :: rest) pos) fb) : DE X W A (.BoolOp .And (a :: b :: rest) pos) (eAnd fa fb) :=
  (pe_and ha hb).imp fun σ H Q ⟨e, G, E, p⟩ => ⟨e, G, E, p.split.imp fun x H1 G1 x1 p1 v rv => by
    obtain ⟨k, rfl, p2⟩ := asB_of p1
    refine ⟨k, rv, ?_⟩
    cases k with
    | true => rw [if_pos rfl] at p2 ⊢; exact ⟨e, G1, E.ext x1, p2⟩
    | false => rw [if_neg Bool.false_ne_true] at p2 ⊢; exact p2.val x1.gh rfl⟩
theorem de_or {fa fb : Env → Res D} (ha : DE X W A a fa) (hb : DE X W A (.BoolOp .Or (b :: rest) pos) fb) : DE X W A (.BoolOp .Or (a :: b :: rest) pos) (eOr fa fb) :=
  (pe_or ha hb).imp fun σ H Q ⟨e, G, E, p⟩ => ⟨e, G, E, p.split.imp fun x H1 G1 x1 p1 v rv => by
    obtain ⟨k, rfl, p2⟩ := asB_of p1
    refine ⟨k, rv, ?_⟩
    cases k with
    | true => rw [if_pos rfl] at p2 ⊢; exact p2.val x1.gh rfl
    | false => rw [if_neg Bool.false_ne_true] at p2 ⊢; exact ⟨e, G1, E.ext x1, p2⟩⟩
theorem de_not {fa : Env → Res D} (ha : DE X W A a fa) : DE X W A (.UnaryOp .Not a pos) (eNot fa) :=
  (pe_not ha).imp fun σ H Q ⟨e, G, E, p⟩ => ⟨e, G, E, p.split.imp fun x H1 G1 x1 p1 v rv => by
    obtain ⟨k, rfl, p2⟩ := asB_of p1
    exact ⟨k, rv, p2.val x1.gh rfl⟩⟩
theorem de_neg {fa : Env → Res D} (ha : DE X W A a fa) : DE X W A (.UnaryOp .USub a pos) (eNeg fa) :=
  (pe_un un_neg ha).imp fun σ H Q ⟨e, G, E, p⟩ => ⟨e, G, E, p.split.imp fun x H1 G1 x1 p1 v rv => by
    cases x with
    | int i => exact ⟨i, rv, PostG.val (d := .int (-i)) p1 x1.gh rfl⟩
    | _ => exact (show False from p1).elim⟩
theorem de_if {c : Expr} {ft : Env → Res Bool} {fa fb : Env → Res D} (hc : DT X W A c ft) (ha : DE X W A a fa) (hb : DE X W A b fb) : DE X W A (.IfExp c a b pos) (eIf ft fa fb) :=
  (pe_ifExp hc ha hb).imp fun σ H Q ⟨e, G, E, p⟩ => ⟨e, G, E, p.split.imp fun k H1 G1 x1 p1 => by
    cases k with
    | true => rw [if_pos rfl] at p1 ⊢; exact ⟨e, G1, E.ext x1, p1⟩
    | false => rw [if_neg Bool.false_ne_true] at p1 ⊢; exact ⟨e, G1, E.ext x1, p1⟩⟩
/-- a op1 b op2 c -/
def eChain (g g' : D → D → Res D) (fa fb fc : Env → Res D) : Env → Res D := fun e => (fa e).bind fun x => (fb e).bind fun y => (g x y).bind fun z => (D.asB z).bind fun k =>
  if k = true then (fc e).bind fun w => g' y w else .ok (.bl false)
theorem de_chain {c : Expr} {op op' : CmpOp} {g g' : D → D → Res D} {fa fb fc : Env → Res D} (ho : OpD X W (compareOp op) g) (ho' : OpD X W (compareOp op') g') (ha : DR X W A a fa) (hb : DR X W A b fb) (hc : DR X W A c fc)
    (hm : lastMarks [op, op'] [b, c] = false := by with_unfolding_all rfl) : DE X W A (.Compare a [op, op'] [b, c] pos) (eChain g g' fa fb fc) := by
  obtain ⟨r, h1, h2⟩ := ho
  obtain ⟨r', h1', h2'⟩ := ho'
  refine (pe_chain h1 h1' ha hb hc hm).imp fun σ H Q ⟨e, G, E, p⟩ => ?_
  refine ⟨e, G, E, p.split.imp fun dx H1 G1 x1 p1 v rv => ⟨e, G1, E.ext x1, p1.split.imp fun dy H2 G2 x2 p2 u ru => ?_⟩⟩
  refine h2 σ H2 G2 v u dx dy _ x2.gh (rv.mono x2.hh x2.gg) ru (p2.split.imp fun d H3 G3 x3 p3 z rz => ?_)
  obtain ⟨k, rfl, p4⟩ := asB_of p3
  refine ⟨k, rz, ?_⟩
  cases k with
  | true =>
    rw [if_pos rfl] at p4 ⊢
    refine ⟨e, G3, ((E.ext x1).ext x2).ext x3, p4.split.imp fun dw H4 G4 x4 p5 w rw => ?_⟩
    exact h2' σ H4 G4 u w dy dw Q x4.gh ((ru.mono x3.hh x3.gg).mono x4.hh x4.gg) rw p5
  | false => rw [if_neg Bool.false_ne_true] at p4 ⊢; exact p4.val x3.gh rfl
def bVal (f : Env → Res D) : Env → Res Bool := fun e => (f e).bind D.asB
theorem dt_chain {c : Expr} {op op' : CmpOp} {g g' : D → D → Res D} {fa fb fc : Env → Res D} (ho : OpD X W (compareOp op) g) (ho' : OpD X W (compareOp op') g') (ha : DR X W A a fa) (hb : DR X W A b fb) (hc : DR X W A c fc)
    (hm : lastMarks [op, op'] [b, c] = false := by with_unfolding_all rfl) : DT X W A (.Compare a [op, op'] [b, c] pos) (bVal (eChain g g' fa fb fc)) := by
  obtain ⟨r, h1, h2⟩ := ho
  obtain ⟨r', h1', h2'⟩ := ho'
  refine (pt_chain h1 h1' ha hb hc hm).imp fun σ H Q ⟨e, G, E, p⟩ => ?_
  have p := p.split
  refine ⟨e, G, E, p.split.imp fun dx H1 G1 x1 p1 v rv => ⟨e, G1, E.ext x1, p1.split.imp fun dy H2 G2 x2 p2 u ru => ?_⟩⟩
  refine h2 σ H2 G2 v u dx dy _ x2.gh (rv.mono x2.hh x2.gg) ru (p2.split.imp fun d H3 G3 x3 p3 z rz => ?_)
  obtain ⟨k, rfl, p4⟩ := asB_of p3
  refine ⟨k, rz, ?_⟩
  cases k with
  | true =>
    rw [if_pos rfl] at p4 ⊢
    refine ⟨e, G3, ((E.ext x1).ext x2).ext x3, p4.split.imp fun dw H4 G4 x4 p5 w rw => ?_⟩
    refine h2' σ H4 G4 u w dy dw _ x4.gh ((ru.mono x3.hh x3.gg).mono x4.hh x4.gg) rw (p5.imp fun d H5 G5 x5 p6 z rz => ?_)
    cases d with
    | bl k => exact ⟨k, rz, p6.here x5.gh⟩
    | _ => exact (show False from p6).elim
  | false => rw [if_neg Bool.false_ne_true] at p4 ⊢; exact ⟨false, rfl, (p4.here x3.gh).here x3.gh⟩

/-! ### argument lists, displays -/
def aNil : Env → Res (List D) := fun _ => .ok []
def aCons (f : Env → Res D) (fs : Env → Res (List D)) : Env → Res (List D) := fun e => (f e).bind fun d => (fs e).bind fun ds => .ok (d :: ds)
theorem da_nil : DA X W A [] aNil := pa_nil.imp fun σ H Q ⟨e, G, E, p⟩ => p.here E.sub [] rfl
theorem da_cons {es : List Expr} {f : Env → Res D} {fs : Env → Res (List D)} (ha : DE X W A a f) (hr : DA X W A es fs) (hs : starEach (a :: es) X.env = (false, eval a X.env) :: starEach es X.env := by rfl) : DA X W A (a :: es) (aCons f fs) :=
  (pa_cons ha hr hs).imp fun σ H Q ⟨e, G, E, p⟩ => ⟨e, G, E, p.split.imp fun d H1 G1 x1 p1 v rv => ⟨e, G1, E.ext x1, p1.split.imp fun ds H2 G2 x2 p2 vs rs => p2.here x2.gh (v :: vs) (.cons (rv.mono x2.gg) rs)⟩⟩
def eTup (fs : Env → Res (List D)) : Env → Res D := fun e => (fs e).bind fun ds => .ok (.tup ds)
def eLst (fs : Env → Res (List D)) : Env → Res D := fun e => (fs e).bind fun ds => .ok (.lst ds)
/-- how long such a list is -/
def LenIs (fs : Env → Res (List D)) (n : Nat) : Prop := ∀ e ds, fs e = .ok ds → ds.length ≤ n
theorem len_nil : LenIs aNil 0 := fun e ds h => by cases h; exact Nat.le_refl _
theorem len_cons {f : Env → Res D} {fs : Env → Res (List D)} {n : Nat} (h : LenIs fs n) : LenIs (aCons f fs) (n + 1) := fun e ds q => by
  unfold aCons at q
  cases hf : f e with
  | ok d =>
    rw [hf] at q
    cases hs : fs e with
    | ok es => rw [hs] at q; cases q; exact Nat.succ_le_succ (h e es hs)
    | exc c x => rw [hs] at q; cases q
    | bad => rw [hs] at q; cases q
  | exc c x => rw [hf] at q; cases q
  | bad => rw [hf] at q; cases q
theorem PostG.ifok {K : PySem.W.Frag} {mg : Str → Option Value} {W : Value → Option Addr → Hp → Prop} {H G : Hp} {α : Type} {r : Res α} {R R' : α → Hp → Hp → Prop} (h : PostG K mg W H G r R) (f : ∀ a H' G', r = .ok a → Ext H G H' G' → R a H' G' → R' a H' G') : PostG K mg W H G r R' := by
  cases r with
  | ok a => exact fun H2 G2 y => f a H2 G2 rfl y (h H2 G2 y)
  | exc c fs => exact h
  | bad => exact h
theorem de_tup {es : List Expr} {x1} {fs : Env → Res (List D)} {n : Nat} (h : DA X W A es fs) (hl : LenIs fs n) (hn : n ≤ sizeLine) : DE X W A (.Tuple es x1 pos) (eTup fs) :=
  (pe_tup h).imp fun σ H Q ⟨e, G, E, p⟩ => ⟨e, G, E, p.split.ifok fun ds H1 G1 hk x1 p1 vs rs => ⟨by rw [rs.length]; exact Nat.le_trans (hl e ds hk) hn, fun q hq =>
    p1 _ _ (Ext.laid x1.gh hq) _ ⟨q, vs, rfl, upd_same, rs.mono (Sub.upd (x1.gh.free hq))⟩⟩⟩
theorem df_lst {es : List Expr} {fs : Env → Res (List D)} {n : Nat} (h : DA X W A es fs) (hl : LenIs fs n) (hn : n ≤ sizeLine) : DF X W A (.List es pos) (eLst fs) :=
  (pe_lst h).imp fun σ H Q ⟨e, G, E, p⟩ => ⟨e, G, E, p.split.ifok fun ds H1 G1 hk x1 p1 vs rs => ⟨by rw [rs.length]; exact Nat.le_trans (hl e ds hk) hn, fun q hq =>
    p1 (upd H1 q (.lst vs)) G1 ⟨Sub.upd hq, Sub.refl _, x1.gh.trans (Sub.upd hq), fun b z => .inl z⟩ q (x1.hh.free hq) (x1.gh.free hq) ⟨vs, upd_same, rs⟩⟩⟩

/-! ### subscripts -/
def dIx : D → D → Res D
  | .con xs, .int i => match atI xs i with
    | some d => .ok d
    | none => .bad
  | .tup xs, .int i => match atI xs i with
    | some d => .ok d
    | none => .bad
  | .lst xs, .int i => match atI xs i with
    | some d => .ok d
    | none => .bad
  | .str x, .int i => if x.length ≤ sizeLine then (match atI x.cps.toList i with
    | some c => .ok (.str ⟨#[c]⟩)
    | none => .bad) else .bad
  | _, _ => .bad
theorem atI_rep {K : PySem.W.Frag} {G : Hp} {ds : List D} {vs : List V} {i : Int} {d : D} (r : RepL K G ds vs) (h : atI ds i = some d) : ∃ v, atI vs i = some v ∧ Rep K G d v := by
  unfold atI at h ⊢
  rw [r.length]
  cases e : ixN ds.length i with
  | none => rw [e] at h; cases h
  | some j =>
    rw [e] at h
    have h' : ds[j]? = some d := h
    obtain ⟨v, h1, h2⟩ := r.get h'
    exact ⟨v, h1, h2⟩
theorem de_ix {fa fb : Env → Res D} (ha : DR X W A a fa) (hb : DR X W A b fb) (hs : PlainIx b) : DE X W A (.Subscript a b pos) (eOp dIx fa fb) := by
  refine (pe_ix (IxR.or ix_list (IxR.or ix_tup ix_str)) ha hb hs).imp (op_two rfl rfl fun σ H G x y dx dy Q sg rx ry p => ?_)
  cases dx with
  | tup ds =>
    cases dy with
    | int i =>
      obtain ⟨q, vs, e, s, r⟩ := (show Rep X.K G (.tup ds) x from rx)
      dsimp only [dIx] at p
      cases ha : atI ds i with
      | none => rw [ha] at p; exact p.elim
      | some d =>
        rw [ha] at p
        obtain ⟨v, h1, h2⟩ := atI_rep r ha
        exact .inr (.inl ⟨q, vs, i, v, e, ry, sg.pt s, h1, p.val sg h2⟩)
    | _ => exact (show False from p).elim
  | con ds =>
    cases dy with
    | int i =>
      obtain ⟨q, vs, e, s, r⟩ := (show Rep X.K G (.con ds) x from rx)
      dsimp only [dIx] at p
      cases ha : atI ds i with
      | none => rw [ha] at p; exact p.elim
      | some d =>
        rw [ha] at p
        obtain ⟨v, h1, h2⟩ := atI_rep r ha
        exact .inr (.inl ⟨q, vs, i, v, e, ry, sg.sqt s, h1, p.val sg h2⟩)
    | _ => exact (show False from p).elim
  | lst ds =>
    cases dy with
    | int i =>
      obtain ⟨q, vs, e, s, r⟩ := rx
      dsimp only [dIx] at p
      cases ha : atI ds i with
      | none => rw [ha] at p; exact p.elim
      | some d =>
        rw [ha] at p
        obtain ⟨v, h1, h2⟩ := atI_rep r ha
        exact .inl ⟨q, vs, i, v, e, ry, s, h1, p.val sg h2⟩
    | _ => exact (show False from p).elim
  | str z =>
    cases dy with
    | int i =>
      dsimp only [dIx] at p
      by_cases hz : z.length ≤ sizeLine
      · rw [if_pos hz] at p
        cases ha : atI z.cps.toList i with
        | none => rw [ha] at p; exact p.elim
        | some c =>
          rw [ha] at p
          exact .inr (.inr ⟨z, i, c, rx, ry, hz, ha, p.val sg rfl⟩)
      · rw [if_neg hz] at p; exact p.elim
    | _ => exact (show False from p).elim
  | _ => exact (show False from p).elim
end
end DL

namespace DL
open PySem PySem.Spec PyProof.Rows L2
open PySem.Builtin.Int (intBits)

/-! ### slices -/
def tO (K : PySem.W.Frag) (mg : Str → Option Value) (W : WX) (A : Nat → Prop) (f : Env → Res (Option Int)) : TO := fun σ H Q => ∃ e G, EnvG K A σ e H G ∧ PostG K mg (fun c o H' => W c o σ H') H G (f e) fun b H' G' => Q b H'
abbrev DO (X : Cx) (W : WX) (A : Nat → Prop) (ex : Option Expr) (f : Env → Res (Option Int)) : Prop := PO X ex (tO X.K X.mg W A f)
theorem _root_.L2.PO.imp {X : Cx} {e : Option Expr} {t t' : TO} (h : PO X e t) (f : ∀ σ H Q, t' σ H Q → t σ H Q) : PO X e t' := ⟨fun pins s σ H Q I q => h.run pins s σ H Q I (f σ H Q q)⟩
def oNone : Env → Res (Option Int) := fun _ => .ok none
def oSome (f : Env → Res D) : Env → Res (Option Int) := fun e => (f e).bind fun d => match d with
  | .int i => .ok (some i)
  | _ => .bad
def cutL {α : Type} (xs : List α) (lo hi : Option Int) : List α := (xs.drop (HT.sIx xs.length 0 lo)).take (HT.sIx xs.length xs.length hi - HT.sIx xs.length 0 lo)
def dCut (lo hi : Option Int) : D → Res D
  | .tup xs => .ok (.tup (cutL xs lo hi))
  | .lst xs => .ok (.lst (cutL xs lo hi))
  | .str x => if x.length ≤ sizeLine then .ok (.str (cutS x lo hi)) else .bad
  | _ => .bad
def eCut (f : Env → Res D) (fl fh : Env → Res (Option Int)) : Env → Res D := fun e => (f e).bind fun d => (fl e).bind fun lo => (fh e).bind fun hi => dCut lo hi d
theorem cutL_all {α : Type} {xs : List α} {lo hi : Option Int} (h : HT.sIx xs.length 0 lo = 0 ∧ HT.sIx xs.length xs.length hi = xs.length) : cutL xs lo hi = xs := by
  unfold cutL
  rw [h.1, h.2]
  simp
theorem RepL.cut {K : PySem.W.Frag} {G : Hp} {ds : List D} {vs : List V} (lo hi : Option Int) (h : RepL K G ds vs) : RepL K G (cutL ds lo hi) (cutV vs lo hi) := by
  unfold cutL cutV
  rw [h.length]
  exact (h.drop _).take _
section
variable {X : Cx} {W : WX} {A : Nat → Prop} {a b : Expr} {lo hi : Option Expr} {rest : List Expr} {pos p2 : Pos}
theorem do_none : DO X W A none oNone := po_none.imp fun σ H Q ⟨e, G, E, p⟩ => p.here E.sub
theorem do_some {f : Env → Res D} (h : DE X W A a f) : DO X W A (some a) (oSome f) :=
  (po_some h).imp fun σ H Q ⟨e, G, E, p⟩ => ⟨e, G, E, p.split.imp fun d H1 G1 x1 p1 v rv => by
    cases d with
    | int i => exact ⟨i, rv, p1.here x1.gh⟩
    | _ => exact (show False from p1).elim⟩
theorem de_cut {f : Env → Res D} {fl fh : Env → Res (Option Int)} (ha : DR X W A a f) (hl : DO X W A lo fl) (hh : DO X W A hi fh) : DE X W A (.Subscript a (.Slice lo hi none p2) pos) (eCut f fl fh) := by
  refine (pe_slice (SlR.or sl_tupA (SlR.or sl_list sl_str)) ha hl hh).imp fun σ H Q ⟨e, G, E, p⟩ => ?_
  refine ⟨e, G, E, p.split.imp fun d H1 G1 x1 p1 v rv => ⟨e, G1, E.ext x1, p1.split.imp fun l H2 G2 x2 p2 => ⟨e, G2, (E.ext x1).ext x2, p2.split.imp fun u H3 G3 x3 p3 => ?_⟩⟩⟩
  have rv := (rv.mono x2.hh x2.gg).mono x3.hh x3.gg
  have sg := x3.gh
  cases d with
  | tup ds =>
    obtain ⟨q, vs, eq, s, r⟩ := (show Rep X.K G3 (.tup ds) v from rv)
    refine .inl ⟨q, vs, eq, sg.pt s, fun hw => ?_, fun hw q2 hq => ?_⟩
    · refine PostG.val (d := .tup (cutL ds l u)) p3 sg ⟨q, vs, rfl, s, ?_⟩
      rw [r.length] at hw
      rw [cutL_all hw]
      exact r
    · exact (show PostG X.K X.mg _ H3 G3 (Res.ok (D.tup (cutL ds l u))) _ from p3) _ _ (Ext.laid sg hq) _ ⟨q2, _, rfl, upd_same, (r.cut l u).mono (Sub.upd (sg.free hq))⟩
  | lst ds =>
    obtain ⟨q, vs, eq, s, r⟩ := rv
    refine .inr (.inl ⟨q, vs, eq, s, fun q2 hq => ?_⟩)
    exact (show PostG X.K X.mg _ H3 G3 (Res.ok (D.lst (cutL ds l u))) _ from p3) _ _ (Ext.laid sg hq) _ ⟨q2, _, rfl, SqL.of upd_same, (r.cut l u).mono (Sub.upd (sg.free hq))⟩
  | str z =>
    dsimp only [dCut] at p3
    by_cases hz : z.length ≤ sizeLine
    · rw [if_pos hz] at p3
      exact .inr (.inr ⟨z, rv, hz, p3.val sg rfl⟩)
    · rw [if_neg hz] at p3; exact p3.elim
  | _ => exact (show False from p3).elim
end

/-! ### calls of built-ins -/
def e1 (g : D → Res D) (f : Env → Res D) : Env → Res D := fun e => (f e).bind g
/-- a call of one value: what it does on data -/
def Call1 (X : Cx) (W : WX) (f : Value) (g : D → Res D) : Prop :=
  ∃ r, CallR X f r ∧ ∀ (σ : L2.St) (H G : Hp) (x : V) (dx : D) (Q : VK), Sub G H → RepC X.K H G dx x →
    PostG X.K X.mg (fun c o H' => W c o σ H') H G (g dx) (fun d H' G' => ∀ v, Rep X.K G' d v → Q v H') → r [x] H Q
def Call2 (X : Cx) (W : WX) (f : Value) (g : D → D → Res D) : Prop :=
  ∃ r, CallR X f r ∧ ∀ (σ : L2.St) (H G : Hp) (x y : V) (dx dy : D) (Q : VK), Sub G H → RepC X.K H G dx x → RepC X.K H G dy y →
    PostG X.K X.mg (fun c o H' => W c o σ H') H G (g dx dy) (fun d H' G' => ∀ v, Rep X.K G' d v → Q v H') → r [x, y] H Q
/-- .. that makes a new list or dict -/
def Call1F (X : Cx) (W : WX) (f : Value) (g : D → Res D) : Prop :=
  ∃ r, CallR X f r ∧ ∀ (σ : L2.St) (H G : Hp) (x : V) (dx : D) (Q : VK), Sub G H → RepC X.K H G dx x →
    PostG X.K X.mg (fun c o H' => W c o σ H') H G (g dx) (fun d H' G' => ∀ a, H a = none → G' a = none → OwnC X.K H' G' d a → Q (.ref a) H') → r [x] H Q
section
variable {X : Cx} {W : WX} {A : Nat → Prop} {a b : Expr} {rest : List Expr} {x : Str} {p pos : Pos} {id T : String}
theorem de_b1 {g : D → Res D} {f : Env → Res D} (hc : Call1 X W (.builtin id) g) (hg : Gl X x) (hm : X.mg x = none) (hv : bootBuiltins x = some (.builtin id)) (ha : DR X W A a f) (hn : x ≠ "__name__" := by decide) (hdb : (x == ("__debug__" : Str)) = false := by decide)
    (he : starEach (a :: []) X.env = (false, eval a X.env) :: starEach [] X.env := by rfl) (hpl : (backTo pos (starEach [] X.env)).any (·.1) = false := by rfl) : DE X W A (.Call (.Name x p) [a] [] pos) (e1 g f) := by
  obtain ⟨r, h1, h2⟩ := hc
  exact (pe_callB h1 hg hm hv (pa_cons ha pa_nil he) hn hdb he hpl).imp fun σ H Q ⟨e, G, E, p⟩ => ⟨e, G, E, p.split.imp fun d H1 G1 x1 p1 v rv => h2 σ H1 G1 v d Q x1.gh rv p1⟩
theorem de_t1 {g : D → Res D} {f : Env → Res D} (hc : Call1 X W (.type T) g) (hg : Gl X x) (hm : X.mg x = none) (hv : bootBuiltins x = some (.type T)) (ha : DR X W A a f) (hn : x ≠ "__name__" := by decide) (hdb : (x == ("__debug__" : Str)) = false := by decide)
    (he : starEach (a :: []) X.env = (false, eval a X.env) :: starEach [] X.env := by rfl) (hpl : (backTo pos (starEach [] X.env)).any (·.1) = false := by rfl) : DE X W A (.Call (.Name x p) [a] [] pos) (e1 g f) := by
  obtain ⟨r, h1, h2⟩ := hc
  exact (pe_callTy h1 hg hm hv (pa_cons ha pa_nil he) hn hdb he hpl).imp fun σ H Q ⟨e, G, E, p⟩ => ⟨e, G, E, p.split.imp fun d H1 G1 x1 p1 v rv => h2 σ H1 G1 v d Q x1.gh rv p1⟩
theorem df_b1 {g : D → Res D} {f : Env → Res D} (hc : Call1F X W (.builtin id) g) (hg : Gl X x) (hm : X.mg x = none) (hv : bootBuiltins x = some (.builtin id)) (ha : DR X W A a f) (hn : x ≠ "__name__" := by decide) (hdb : (x == ("__debug__" : Str)) = false := by decide)
    (he : starEach (a :: []) X.env = (false, eval a X.env) :: starEach [] X.env := by rfl) (hpl : (backTo pos (starEach [] X.env)).any (·.1) = false := by rfl) : DF X W A (.Call (.Name x p) [a] [] pos) (e1 g f) := by
  obtain ⟨r, h1, h2⟩ := hc
  exact (pe_callB h1 hg hm hv (pa_cons ha pa_nil he) hn hdb he hpl).imp fun σ H Q ⟨e, G, E, p⟩ => ⟨e, G, E, p.split.imp fun d H1 G1 x1 p1 v rv => h2 σ H1 G1 v d Q x1.gh rv (p1.imp fun z H2 G2 x2 q c hc => q c (x1.hh.free hc))⟩
theorem df_t1 {g : D → Res D} {f : Env → Res D} (hc : Call1F X W (.type T) g) (hg : Gl X x) (hm : X.mg x = none) (hv : bootBuiltins x = some (.type T)) (ha : DR X W A a f) (hn : x ≠ "__name__" := by decide) (hdb : (x == ("__debug__" : Str)) = false := by decide)
    (he : starEach (a :: []) X.env = (false, eval a X.env) :: starEach [] X.env := by rfl) (hpl : (backTo pos (starEach [] X.env)).any (·.1) = false := by rfl) : DF X W A (.Call (.Name x p) [a] [] pos) (e1 g f) := by
  obtain ⟨r, h1, h2⟩ := hc
  exact (pe_callTy h1 hg hm hv (pa_cons ha pa_nil he) hn hdb he hpl).imp fun σ H Q ⟨e, G, E, p⟩ => ⟨e, G, E, p.split.imp fun d H1 G1 x1 p1 v rv => h2 σ H1 G1 v d Q x1.gh rv (p1.imp fun z H2 G2 x2 q c hc => q c (x1.hh.free hc))⟩
theorem de_b2 {g : D → D → Res D} {fa fb : Env → Res D} (hc : Call2 X W (.builtin id) g) (hg : Gl X x) (hm : X.mg x = none) (hv : bootBuiltins x = some (.builtin id)) (ha : DR X W A a fa) (hb : DR X W A b fb) (hn : x ≠ "__name__" := by decide) (hdb : (x == ("__debug__" : Str)) = false := by decide)
    (he : starEach (a :: [b]) X.env = (false, eval a X.env) :: starEach [b] X.env := by rfl) (he2 : starEach (b :: []) X.env = (false, eval b X.env) :: starEach [] X.env := by rfl) (hpl : (backTo pos (starEach [b] X.env)).any (·.1) = false := by rfl) : DE X W A (.Call (.Name x p) [a, b] [] pos) (eOp g fa fb) := by
  obtain ⟨r, h1, h2⟩ := hc
  refine (pe_callB h1 hg hm hv (pa_cons ha (pa_cons hb pa_nil he2) he) hn hdb he hpl).imp fun σ H Q ⟨e, G, E, p⟩ => ?_
  refine ⟨e, G, E, p.split.imp fun d H1 G1 x1 p1 v rv => ⟨e, G1, E.ext x1, p1.split.imp fun d2 H2 G2 x2 p2 u ru => h2 σ H2 G2 v u d d2 Q x2.gh (rv.mono x2.hh x2.gg) ru p2⟩⟩

/-! len, abs, max, min, int, list, tuple, sum .. -/
def rLenD : List V → Hp → VK → Prop := fun xs H Q => ∃ a n, xs = [V.ref a] ∧ ((∃ kvs, Rd H a (.dK kvs) ∧ n = kvs.length) ∨ ∃ kvs, Rd H a (.dT kvs) ∧ n = kvs.length) ∧ Q (.int ((n : Nat) : Int)) H
theorem cr_lenD : CallR X (.builtin "len") rLenD := by
  intro pins s σ H xs us Q I r h
  obtain ⟨a, n, rfl, hd, q⟩ := h
  obtain ⟨u, rfl, rx⟩ := vals1 r
  obtain rfl : u = .ref a := rx
  rcases hd with ⟨kvs, hk, rfl⟩ | ⟨kvs, hk, rfl⟩
  · exact d_len I hk fun t s' I' => ⟨.int _, H, I', ⟨_, rfl⟩, q⟩
  · obtain ⟨z, hd, ys, rel, dd⟩ := dt_rd I.hok hk
    have hl : kvs.length = ys.length := Paired.length rel
    refine call_len_dictH hd dd (by rw [← hl]; rw [PySem.sizeLine_eq] at z; omega) ?_
    rw [← hl]
    exact ⟨.int ((kvs.length : Nat) : Int), H, I.tok _, ⟨_, rfl⟩, q⟩
def dLen : D → Res D
  | .lst xs => .ok (.int xs.length)
  | .tup xs => .ok (.int xs.length)
  | .con xs => .ok (.int xs.length)
  | .str x => if x.length ≤ sizeLine then .ok (.int x.length) else .bad
  | .dct _ kvs => .ok (.int kvs.length)
  | _ => .bad
theorem c1_len : Call1 X W (.builtin "len") dLen := by
  refine ⟨_, CallR.or call_len cr_lenD, fun σ H G x dx Q sg rx p => ?_⟩
  cases dx with
  | lst ds =>
    obtain ⟨q, vs, e, s, r⟩ := rx
    subst e
    refine .inl ⟨_, vs.length, rfl, .inl ⟨vs, s, rfl⟩, ?_⟩
    rw [r.length]
    exact PostG.val (d := .int ds.length) p sg rfl
  | tup ds =>
    obtain ⟨q, vs, e, s, r⟩ := (show Rep X.K G (.tup ds) x from rx)
    subst e
    refine .inl ⟨_, vs.length, rfl, .inr ⟨vs, sg.pt s, rfl⟩, ?_⟩
    rw [r.length]
    exact PostG.val (d := .int ds.length) p sg rfl
  | con ds =>
    obtain ⟨q, vs, e, s, r⟩ := (show Rep X.K G (.con ds) x from rx)
    subst e
    refine .inl ⟨_, vs.length, rfl, .inr ⟨vs, sg.sqt s, rfl⟩, ?_⟩
    rw [r.length]
    exact PostG.val (d := .int ds.length) p sg rfl
  | dct t kvs =>
    obtain ⟨a, e, h⟩ := rx
    subst e
    have p' : Q (.int ((kvs.length : Nat) : Int)) H := PostG.val (d := .int kvs.length) p sg rfl
    rcases h with ⟨_, ps, h1, h2, _⟩ | ⟨_, ps, h1, h2, _⟩
    · have hl := congrArg List.length h2
      rw [List.length_map, List.length_map] at hl
      exact .inr ⟨a, ps.length, rfl, .inl ⟨ps, h1, rfl⟩, by rw [← hl]; exact p'⟩
    · have hl := congrArg List.length h2
      rw [List.length_map, List.length_map] at hl
      exact .inr ⟨a, ps.length, rfl, .inr ⟨ps, h1, rfl⟩, by rw [← hl]; exact p'⟩
  | str z =>
    have : x = .str z := rx
    subst this
    dsimp only [dLen] at p
    by_cases hz : z.length ≤ sizeLine
    · rw [if_pos hz] at p
      exact .inl ⟨_, z.length, rfl, ⟨hz, rfl⟩, p.val sg rfl⟩
    · rw [if_neg hz] at p; exact p.elim
  | _ => exact (show False from p).elim
def dAbs : D → Res D
  | .int i => .ok (.int (if i < 0 then -i else i))
  | _ => .bad
theorem c1_abs : Call1 X W (.builtin "abs") dAbs := by
  refine ⟨_, call_abs, fun σ H G x dx Q sg rx p => ?_⟩
  cases dx with
  | int i =>
    have : x = .int i := rx
    subst this
    exact ⟨i, rfl, PostG.val (d := .int (if i < 0 then -i else i)) p sg rfl⟩
  | _ => exact (show False from p).elim
def dInt : D → Res D
  | .int i => .ok (.int i)
  | .bl b => .ok (.int (if b = true then 1 else 0))
  | _ => .bad
theorem c1_int : Call1 X W (.type "int") dInt := by
  refine ⟨_, call_int1, fun σ H G x dx Q sg rx p => ?_⟩
  cases dx with
  | int i =>
    have : x = .int i := rx
    subst this
    exact .inl ⟨i, rfl, PostG.val (d := .int i) p sg rfl⟩
  | bl b =>
    have : x = .bl b := rx
    subst this
    exact .inr ⟨b, rfl, PostG.val (d := .int (if b = true then 1 else 0)) p sg rfl⟩
  | _ => exact (show False from p).elim
def dMax : D → D → Res D
  | .int i, .int j => .ok (.int (if j > i then j else i))
  | _, _ => .bad
def dMin : D → D → Res D
  | .int i, .int j => .ok (.int (if j < i then j else i))
  | _, _ => .bad
theorem c2_max (hc : X.calm = true) : Call2 X W (.builtin "max") dMax := by
  refine ⟨_, call_max2 hc, fun σ H G x y dx dy Q sg rx ry p => ?_⟩
  cases dx with
  | int i =>
    cases dy with
    | int j =>
      have h1 : x = .int i := rx
      have h2 : y = .int j := ry
      subst h1 h2
      exact ⟨i, j, rfl, PostG.val (d := .int (if j > i then j else i)) p sg rfl⟩
    | _ => exact (show False from p).elim
  | _ => exact (show False from p).elim
theorem c2_min (hc : X.calm = true) : Call2 X W (.builtin "min") dMin := by
  refine ⟨_, call_min2 hc, fun σ H G x y dx dy Q sg rx ry p => ?_⟩
  cases dx with
  | int i =>
    cases dy with
    | int j =>
      have h1 : x = .int i := rx
      have h2 : y = .int j := ry
      subst h1 h2
      exact ⟨i, j, rfl, PostG.val (d := .int (if j < i then j else i)) p sg rfl⟩
    | _ => exact (show False from p).elim
  | _ => exact (show False from p).elim
def dTuple : D → Res D
  | .lst xs => .ok (.tup xs)
  | .tup xs => .ok (.tup xs)
  | .con xs => .ok (.con xs)
  | _ => .bad
theorem c1_tuple : Call1 X W (.type "tuple") dTuple := by
  refine ⟨_, call_tuple_of, fun σ H G x dx Q sg rx p => ?_⟩
  cases dx with
  | lst ds =>
    obtain ⟨q, vs, e, s, r⟩ := rx
    subst e
    refine ⟨q, vs, rfl, .inl ⟨s, fun l hl => ?_⟩⟩
    exact (show PostG X.K X.mg _ H G (Res.ok (D.tup ds)) _ from p) _ _ (Ext.laid sg hl) _ ⟨l, vs, rfl, upd_same, r.mono (Sub.upd (sg.free hl))⟩
  | tup ds =>
    have rx : Rep X.K G (.tup ds) x := rx
    obtain ⟨q, vs, e, s, r⟩ := id rx
    subst e
    exact ⟨q, vs, rfl, .inr ⟨sg.pt s, PostG.val (d := .tup ds) p sg rx⟩⟩
  | con ds =>
    have rx : Rep X.K G (.con ds) x := rx
    obtain ⟨q, vs, e, s, r⟩ := id rx
    subst e
    exact ⟨q, vs, rfl, .inr ⟨sg.sqt s, PostG.val (d := .con ds) p sg rx⟩⟩
  | _ => exact (show False from p).elim
def dList : D → Res D
  | .lst xs => .ok (.lst xs)
  | .tup xs => .ok (.lst xs)
  | .con xs => .ok (.lst xs)
  | _ => .bad
theorem c1_list : Call1F X W (.type "list") dList := by
  refine ⟨_, call_list_of, fun σ H G x dx Q sg rx p => ?_⟩
  have fin : ∀ (ds : List D) (vs : List V), RepL X.K G ds vs → PostG X.K X.mg (fun c o H' => W c o σ H') H G (Res.ok (D.lst ds)) (fun d H' G' => ∀ a, H a = none → G' a = none → OwnC X.K H' G' d a → Q (.ref a) H') → ∀ l, H l = none → Q (.ref l) (upd H l (.lst vs)) :=
    fun ds vs r p l hl => p (upd H l (.lst vs)) G ⟨Sub.upd hl, Sub.refl _, sg.trans (Sub.upd hl), fun b z => .inl z⟩ l hl (sg.free hl) ⟨vs, upd_same, r⟩
  cases dx with
  | lst ds =>
    obtain ⟨q, vs, e, s, r⟩ := rx
    subst e
    exact ⟨q, vs, rfl, .inl s, fin ds vs r p⟩
  | tup ds =>
    obtain ⟨q, vs, e, s, r⟩ := (show Rep X.K G (.tup ds) x from rx)
    subst e
    exact ⟨q, vs, rfl, .inr (sg.pt s), fin ds vs r p⟩
  | con ds =>
    obtain ⟨q, vs, e, s, r⟩ := (show Rep X.K G (.con ds) x from rx)
    subst e
    exact ⟨q, vs, rfl, .inr (sg.sqt s), fin ds vs r p⟩
  | _ => exact (show False from p).elim
/-- the ints of a list of ints -/
def D.ints : List D → Option (List Int)
  | [] => some []
  | .int i :: r => (D.ints r).map fun ns => i :: ns
  | _ :: _ => none
theorem ints_eq : ∀ {ds : List D} {ns : List Int}, D.ints ds = some ns → ds = ns.map D.int
  | [], ns, h => by cases h; rfl
  | d :: r, ns, h => by
    cases d with
    | int i =>
      dsimp only [D.ints] at h
      cases e : D.ints r with
      | none => rw [e] at h; cases h
      | some ms => rw [e] at h; cases h; rw [ints_eq e]; rfl
    | _ => cases h
@[simp] theorem ints_map : ∀ ns : List Int, D.ints (ns.map D.int) = some ns
  | [] => rfl
  | n :: r => by show (D.ints (r.map D.int)).map _ = _; rw [ints_map r]; rfl
def D.bls : List D → Option (List Bool)
  | [] => some []
  | .bl i :: r => (D.bls r).map fun ns => i :: ns
  | _ :: _ => none
theorem bls_eq : ∀ {ds : List D} {ns : List Bool}, D.bls ds = some ns → ds = ns.map D.bl
  | [], ns, h => by cases h; rfl
  | d :: r, ns, h => by
    cases d with
    | bl i =>
      dsimp only [D.bls] at h
      cases e : D.bls r with
      | none => rw [e] at h; cases h
      | some ms => rw [e] at h; cases h; rw [bls_eq e]; rfl
    | _ => cases h
@[simp] theorem bls_map : ∀ ns : List Bool, D.bls (ns.map D.bl) = some ns
  | [] => rfl
  | n :: r => by show (D.bls (r.map D.bl)).map _ = _; rw [bls_map r]; rfl
def dSum : D → Res D
  | .lst xs => match D.ints xs with
    | some ns => .ok (.int ns.sum)
    | none => .bad
  | _ => .bad
theorem c1_sum (hc : X.calm = true) : Call1 X W (.builtin "sum") dSum := by
  refine ⟨_, cr_sum hc, fun σ H G x dx Q sg rx p => ?_⟩
  cases dx with
  | lst ds =>
    obtain ⟨q, vs, e, s, r⟩ := rx
    subst e
    dsimp only [dSum] at p
    cases hi : D.ints ds with
    | none => rw [hi] at p; exact p.elim
    | some ns =>
      rw [hi] at p
      rw [ints_eq hi] at r
      rw [r.ints] at s
      exact ⟨q, ns, rfl, s, p.val sg rfl⟩
  | _ => exact (show False from p).elim
def dAll : D → Res D
  | .lst xs => match D.bls xs with
    | some ns => .ok (.bl (ns.all _root_.id))
    | none => .bad
  | _ => .bad
def dAny : D → Res D
  | .lst xs => match D.bls xs with
    | some ns => .ok (.bl (ns.any _root_.id))
    | none => .bad
  | _ => .bad
theorem c1_all (hc : X.calm = true) : Call1 X W (.builtin "all") dAll := by
  refine ⟨_, cr_all hc, fun σ H G x dx Q sg rx p => ?_⟩
  cases dx with
  | lst ds =>
    obtain ⟨q, vs, e, s, r⟩ := rx
    subst e
    dsimp only [dAll] at p
    cases hi : D.bls ds with
    | none => rw [hi] at p; exact p.elim
    | some ns =>
      rw [hi] at p
      rw [bls_eq hi] at r
      rw [r.bls] at s
      exact ⟨q, ns, rfl, s, p.val sg rfl⟩
  | _ => exact (show False from p).elim
theorem c1_any (hc : X.calm = true) : Call1 X W (.builtin "any") dAny := by
  refine ⟨_, cr_any hc, fun σ H G x dx Q sg rx p => ?_⟩
  cases dx with
  | lst ds =>
    obtain ⟨q, vs, e, s, r⟩ := rx
    subst e
    dsimp only [dAny] at p
    cases hi : D.bls ds with
    | none => rw [hi] at p; exact p.elim
    | some ns =>
      rw [hi] at p
      rw [bls_eq hi] at r
      rw [r.bls] at s
      exact ⟨q, ns, rfl, s, p.val sg rfl⟩
  | _ => exact (show False from p).elim
end
end DL

namespace DL
open PySem PySem.Spec PyProof.Rows L2
open PySem.Builtin.Int (intBits)

/-! ### statements -/
inductive Out where
  | nx (e : Env)
  | rt (d : D)
  | ro (d : D)
  | bk (e : Env)
  | ct (e : Env)
  | ex (c : String) (fs : List D) (e : Env)
  | bad

def unown (i : Nat) (e : Env) : Env := match e[i]? with
  | some (some (d, true)) => e.set i (some (d, false))
  | _ => e
/-- these names' lists and dicts are not changed any more -/
def fz : List Nat → Env → Env
  | [], e => e
  | i :: r, e => fz r (unown i e)
@[simp] theorem fz_nil (e : Env) : fz [] e = e := rfl
theorem unown_get (i : Nat) (e : Env) (j : Nat) : (unown i e)[j]? = if j = i then (match e[j]? with | some (some (d, _)) => some (some (d, false)) | z => z) else e[j]? := by
  unfold unown
  by_cases h : j = i
  · subst h
    rw [if_pos rfl]
    cases q : e[j]? with
    | none => simp only [q]
    | some s =>
      have hl : j < e.length := (List.getElem?_eq_some_iff.mp q).1
      cases s with
      | none => simp only [q]
      | some z =>
        obtain ⟨d, o⟩ := z
        cases o with
        | true => simp only []; rw [List.getElem?_set_self hl]
        | false => simp only [q]
  · rw [if_neg h]
    split
    · rw [List.getElem?_set_ne (Ne.symm h)]
    · rfl
theorem unown_length (i : Nat) (e : Env) : (unown i e).length = e.length := by
  unfold unown
  split
  · rw [List.length_set]
  · rfl
theorem fz_length : ∀ (al : List Nat) (e : Env), (fz al e).length = e.length
  | [], e => rfl
  | i :: r, e => by rw [fz, fz_length r, unown_length]
theorem fz_get : ∀ (al : List Nat) (e : Env) (j : Nat) (d : D) (o : Bool), (fz al e)[j]? = some (some (d, o)) → ∃ o', e[j]? = some (some (d, o')) ∧ ((o = o' ∧ (o' = true → j ∉ al)) ∨ (o = false ∧ o' = true ∧ j ∈ al))
  | [], e, j, d, o, h => ⟨o, h, .inl ⟨rfl, fun _ => by simp⟩⟩
  | i :: r, e, j, d, o, h => by
    obtain ⟨o1, h1, h2⟩ := fz_get r (unown i e) j d o h
    rw [unown_get] at h1
    by_cases hj : j = i
    · rw [if_pos hj] at h1
      cases q : e[j]? with
      | none => rw [q] at h1; cases h1
      | some s => cases s with
        | none => rw [q] at h1; cases h1
        | some z =>
          obtain ⟨d', o'⟩ := z
          rw [q] at h1
          cases h1
          rcases h2 with ⟨rfl, _⟩ | ⟨_, z, _⟩
          · cases o' with
            | true => exact ⟨true, rfl, .inr ⟨rfl, rfl, by simp [hj]⟩⟩
            | false => exact ⟨false, rfl, .inl ⟨rfl, fun z => by cases z⟩⟩
          · cases z
    · rw [if_neg hj] at h1
      refine ⟨o1, h1, ?_⟩
      rcases h2 with ⟨a, b⟩ | ⟨a, b, c⟩
      · exact .inl ⟨a, fun z => by simp [hj, b z]⟩
      · exact .inr ⟨a, b, by simp [c]⟩

/-- the state between two statements: H0, G0 at the def's entry -/
structure StOk (K : PySem.W.Frag) (H0 G0 : Hp) (σ : L2.St) (e : Env) (H G : Hp) : Prop where
  ext : Ext H0 G0 H G
  len : σ.length = e.length
  sh : ∀ (i : Nat) d, e[i]? = some (some (d, false)) → ∃ v, σ[i]? = some (some v) ∧ Rep K G d v
  ow : ∀ (i : Nat) d, e[i]? = some (some (d, true)) → ∃ a, σ[i]? = some (some (.ref a)) ∧ H0 a = none ∧ G a = none ∧ OwnC K H G d a
  ne : ∀ (i j : Nat) d d' a, e[i]? = some (some (d, true)) → e[j]? = some (some (d', true)) → σ[i]? = some (some (.ref a)) → σ[j]? = some (some (.ref a)) → i = j
/-- what a reckoning of the names at al may keep -/
def OwnAt (σ : L2.St) (e : Env) (al : List Nat) (b : Addr) : Prop := ∃ (i : Nat) (d : D), i ∈ al ∧ e[i]? = some (some (d, true)) ∧ σ[i]? = some (some (.ref b))
open Classical in
noncomputable def gA (σ : L2.St) (e : Env) (al : List Nat) (H G : Hp) : Hp := fun b => if OwnAt σ e al b then H b else G b
theorem StOk.exp {K : PySem.W.Frag} {H0 G0 H G : Hp} {σ : L2.St} {e : Env} (S : StOk K H0 G0 σ e H G) (al : List Nat) :
    ∃ GA, EnvG K (fun i => i ∈ al) σ e H GA ∧ ∀ H' G', Ext H GA H' G' → StOk K H0 G0 σ (fz al e) H' G' := by
  have yes : ∀ {b : Addr}, OwnAt σ e al b → gA σ e al H G b = H b := fun h => if_pos h
  have no : ∀ {b : Addr}, ¬ OwnAt σ e al b → gA σ e al H G b = G b := fun h => if_neg h
  have gown : ∀ {b : Addr}, OwnAt σ e al b → G b = none := fun {b} ⟨i, d, _, h1, h2⟩ => by
    obtain ⟨a, q1, _, q2, _⟩ := S.ow i d h1
    rw [h2] at q1; cases q1; exact q2
  have s1 : Sub G (gA σ e al H G) := fun b o q => by
    by_cases h : OwnAt σ e al b
    · rw [gown h] at q; cases q
    · rw [no h]; exact q
  have s2 : Sub (gA σ e al H G) H := fun b o q => by
    by_cases h : OwnAt σ e al b
    · rw [yes h] at q; exact q
    · rw [no h] at q; exact S.ext.gh _ _ q
  have keep : ∀ (i : Nat) (d : D), i ∈ al → e[i]? = some (some (d, true)) → ∃ v, σ[i]? = some (some v) ∧ Rep K (gA σ e al H G) d v := fun i d hi h => by
    obtain ⟨a, q1, _, _, q5⟩ := S.ow i d h
    exact ⟨_, q1, q5.put s1 (yes ⟨i, d, hi, h, q1⟩)⟩
  refine ⟨gA σ e al H G, ⟨s2, S.len, fun i d o h => ?_⟩, fun H' G' x => ?_⟩
  · cases o with
    | false =>
      obtain ⟨v, q1, q2⟩ := S.sh i d h
      exact ⟨v, q1, fun _ => q2.mono s1, (q2.c S.ext.gh).mono (Sub.refl _) s1⟩
    | true =>
      obtain ⟨a, q1, q2, q3, q5⟩ := S.ow i d h
      refine ⟨_, q1, fun z => ?_, q5.c.mono (Sub.refl _) s1⟩
      rcases z with z | z
      · exact q5.put s1 (yes ⟨i, d, z, h, q1⟩)
      · cases z
  · refine ⟨⟨S.ext.hh.trans x.hh, S.ext.gg.trans (s1.trans x.gg), x.gh, fun b z => ?_⟩, by rw [fz_length]; exact S.len, fun i d h => ?_, fun i d h => ?_, fun i j d d' a h1 h2 h3 h4 => ?_⟩
    · rcases x.new b z with z | z
      · by_cases h : OwnAt σ e al b
        · obtain ⟨i, d, _, h1, h2⟩ := h
          obtain ⟨a, q1, q2, _⟩ := S.ow i d h1
          rw [h2] at q1; cases q1; exact .inr (.inl q2)
        · rw [no h] at z; exact S.ext.new b z
      · exact .inr (z.back S.ext.hh)
    · obtain ⟨o', h1, h2⟩ := fz_get al e i d false h
      rcases h2 with ⟨rfl, _⟩ | ⟨_, rfl, hi⟩
      · obtain ⟨v, q1, q2⟩ := S.sh i d h1
        exact ⟨v, q1, q2.mono (s1.trans x.gg)⟩
      · obtain ⟨v, q1, q2⟩ := keep i d hi h1
        exact ⟨v, q1, q2.mono x.gg⟩
    · obtain ⟨o', h1, h2⟩ := fz_get al e i d true h
      rcases h2 with ⟨rfl, hi⟩ | ⟨z, _⟩
      · obtain ⟨a, q1, q2, q3, q5⟩ := S.ow i d h1
        refine ⟨a, q1, q2, ?_, q5.mono x.hh (s1.trans x.gg)⟩
        cases hg : G' a with
        | none => rfl
        | some u =>
          rcases x.new a (by rw [hg]; simp) with z | z
          · have nown : ¬ OwnAt σ e al a := fun ⟨j, d', hj, w1, w2⟩ => hi rfl (by rw [S.ne i j d d' a h1 w1 q1 w2]; exact hj)
            rw [no nown] at z
            exact absurd q3 z
          · exact absurd z q5.nfr
      · cases z
    · obtain ⟨o1, w1, z1⟩ := fz_get al e i d true h1
      obtain ⟨o2, w2, z2⟩ := fz_get al e j d' true h2
      have e1 : o1 = true := by rcases z1 with ⟨z, _⟩ | ⟨z, _⟩; exact z.symm; cases z
      have e2 : o2 = true := by rcases z2 with ⟨z, _⟩ | ⟨z, _⟩; exact z.symm; cases z
      subst e1 e2
      exact S.ne i j d d' a w1 w2 h3 h4

/-! a name is stored -/
theorem set_get {α : Type} {e : List α} {i j : Nat} {x y : α} (h : (e.set i x)[j]? = some y) : (j = i ∧ y = x) ∨ (j ≠ i ∧ e[j]? = some y) := by
  by_cases hj : j = i
  · subst hj
    by_cases hl : j < e.length
    · rw [List.getElem?_set_self hl] at h; cases h; exact .inl ⟨rfl, rfl⟩
    · rw [List.getElem?_eq_none (by simpa using hl)] at h; cases h
  · rw [List.getElem?_set_ne (Ne.symm hj)] at h; exact .inr ⟨hj, h⟩
section
variable {K : PySem.W.Frag} {H0 G0 H G : Hp} {σ : L2.St} {e : Env}
theorem StOk.lt (S : StOk K H0 G0 σ e H G) {i : Nat} {s : Sl} {x : Sl} (h : (e.set i x)[i]? = some s) : i < σ.length := by
  by_cases hl : i < e.length
  · rw [S.len]; exact hl
  · rw [List.getElem?_eq_none (by simpa using hl)] at h; cases h
theorem StOk.set (S : StOk K H0 G0 σ e H G) (i : Nat) {d : D} {v : V} (r : Rep K G d v) : StOk K H0 G0 (σ.set i (some v)) (e.set i (some (d, false))) H G := by
  refine ⟨S.ext, by rw [List.length_set, List.length_set]; exact S.len, fun j d' h => ?_, fun j d' h => ?_, fun j k d1 d2 a h1 h2 h3 h4 => ?_⟩
  · rcases set_get h with ⟨rfl, z⟩ | ⟨hj, z⟩
    · cases z
      exact ⟨v, List.getElem?_set_self (S.lt h), r⟩
    · obtain ⟨w, q1, q2⟩ := S.sh j d' z
      exact ⟨w, by rw [List.getElem?_set_ne (Ne.symm hj)]; exact q1, q2⟩
  · rcases set_get h with ⟨_, z⟩ | ⟨hj, z⟩
    · cases z
    · obtain ⟨a, q1, q2⟩ := S.ow j d' z
      exact ⟨a, by rw [List.getElem?_set_ne (Ne.symm hj)]; exact q1, q2⟩
  · rcases set_get h1 with ⟨_, z⟩ | ⟨hj, z1⟩
    · cases z
    · rcases set_get h2 with ⟨_, z⟩ | ⟨hk, z2⟩
      · cases z
      · rw [List.getElem?_set_ne (Ne.symm hj)] at h3
        rw [List.getElem?_set_ne (Ne.symm hk)] at h4
        exact S.ne j k d1 d2 a z1 z2 h3 h4
theorem StOk.setF (S : StOk K H0 G0 σ e H G) (i : Nat) {d : D} {a : Addr} {Hb : Hp} (hb : Sub H0 Hb) (ho : ∀ (j : Nat) d b, e[j]? = some (some (d, true)) → σ[j]? = some (some (.ref b)) → Hb b ≠ none) (ha : Hb a = none) (ga : G a = none) (rc : OwnC K H G d a) :
    StOk K H0 G0 (σ.set i (some (.ref a))) (e.set i (some (d, true))) H G := by
  have other : ∀ (j : Nat) d' b, e[j]? = some (some (d', true)) → σ[j]? = some (some (.ref b)) → b ≠ a := fun j d' b h1 h2 z => ho j d' b h1 h2 (by rw [z]; exact ha)
  refine ⟨S.ext, by rw [List.length_set, List.length_set]; exact S.len, fun j d' h => ?_, fun j d' h => ?_, fun j k d1 d2 b h1 h2 h3 h4 => ?_⟩
  · rcases set_get h with ⟨_, z⟩ | ⟨hj, z⟩
    · cases z
    · obtain ⟨w, q1, q2⟩ := S.sh j d' z
      exact ⟨w, by rw [List.getElem?_set_ne (Ne.symm hj)]; exact q1, q2⟩
  · rcases set_get h with ⟨rfl, z⟩ | ⟨hj, z⟩
    · cases z
      exact ⟨a, List.getElem?_set_self (S.lt h), hb.free ha, ga, rc⟩
    · obtain ⟨b, q1, q2⟩ := S.ow j d' z
      exact ⟨b, by rw [List.getElem?_set_ne (Ne.symm hj)]; exact q1, q2⟩
  · rcases set_get h1 with ⟨rfl, z1⟩ | ⟨hj, z1⟩
    · rw [List.getElem?_set_self (S.lt h1)] at h3
      cases h3
      rcases set_get h2 with ⟨e2, _⟩ | ⟨hk, z2⟩
      · exact e2.symm
      · rw [List.getElem?_set_ne (Ne.symm hk)] at h4
        exact absurd rfl (other k d2 a z2 h4)
    · rw [List.getElem?_set_ne (Ne.symm hj)] at h3
      rcases set_get h2 with ⟨rfl, _⟩ | ⟨hk, z2⟩
      · rw [List.getElem?_set_self (S.lt h2)] at h4
        cases h4
        exact absurd rfl (other j d1 a z1 h3)
      · rw [List.getElem?_set_ne (Ne.symm hk)] at h4
        exact S.ne j k d1 d2 b z1 z2 h3 h4
/-- the list or dict of a name is changed -/
theorem StOk.change (S : StOk K H0 G0 σ e H G) {i : Nat} {d d' : D} {a : Addr} {o : HO} (h : e[i]? = some (some (d, true))) (hs : σ[i]? = some (some (.ref a))) (rc : OwnC K (upd H a o) G d' a) :
    StOk K H0 G0 σ (e.set i (some (d', true))) (upd H a o) G := by
  obtain ⟨a', q1, q2, q3, q5⟩ := S.ow i d h
  rw [hs] at q1; cases q1
  have il : i < e.length := (List.getElem?_eq_some_iff.mp h).1
  have nG : ∀ {b u}, G b = some u → b ≠ a := fun {b u} z w => by rw [w, q3] at z; cases z
  have n0 : ∀ {b u}, H0 b = some u → b ≠ a := fun {b u} z w => by rw [w, q2] at z; cases z
  refine ⟨⟨fun b u z => by rw [upd_ne (n0 z)]; exact S.ext.hh _ _ z, S.ext.gg, fun b u z => by rw [upd_ne (nG z)]; exact S.ext.gh _ _ z, S.ext.new⟩, by rw [List.length_set]; exact S.len, fun j d1 h1 => ?_, fun j d1 h1 => ?_, fun j k d1 d2 b h1 h2 h3 h4 => ?_⟩
  · rcases set_get h1 with ⟨_, z⟩ | ⟨hj, z⟩
    · cases z
    · exact S.sh j d1 z
  · rcases set_get h1 with ⟨rfl, z⟩ | ⟨hj, z⟩
    · cases z
      exact ⟨a, hs, q2, q3, rc⟩
    · obtain ⟨b, w1, w2, w3, w5⟩ := S.ow j d1 z
      have nb : b ≠ a := fun q => hj (S.ne j i d1 d b z h w1 (by rw [q]; exact hs))
      exact ⟨b, w1, w2, w3, w5.mono' (fun o' z => by rw [upd_ne nb]; exact z) (Sub.refl _)⟩
  · have k1 : ∃ d', e[j]? = some (some (d', true)) := by
      rcases set_get h1 with ⟨rfl, _⟩ | ⟨_, z⟩
      · exact ⟨d, h⟩
      · exact ⟨_, z⟩
    have k2 : ∃ d', e[k]? = some (some (d', true)) := by
      rcases set_get h2 with ⟨rfl, _⟩ | ⟨_, z⟩
      · exact ⟨d, h⟩
      · exact ⟨_, z⟩
    obtain ⟨x1, y1⟩ := k1
    obtain ⟨x2, y2⟩ := k2
    exact S.ne j k x1 x2 b y1 y2 h3 h4
end
end DL

namespace DL
open PySem PySem.Spec PyProof.Rows L2
open PySem.Builtin.Int (intBits)

def SPost (K : PySem.W.Frag) (mg : Str → Option Value) (W : WX) (H0 G0 : Hp) (r : Out) (Z : Ends) : Prop := match r with
  | .nx e' => ∀ σ' H' G', StOk K H0 G0 σ' e' H' G' → Z.nx σ' H'
  | .bk e' => ∀ σ' H' G', StOk K H0 G0 σ' e' H' G' → Z.bk σ' H'
  | .ct e' => ∀ σ' H' G', StOk K H0 G0 σ' e' H' G' → Z.ct σ' H'
  | .rt d => ∀ v H' G', Ext H0 G0 H' G' → Rep K G' d v → Z.rt v H'
  | .ro d => ∀ a H' G', Ext H0 G0 H' G' → H0 a = none → G' a = none → OwnC K H' G' d a → Z.rt (.ref a) H'
  | .ex c fs e' => ∀ cls o σ' H' G' H'', StOk K H0 G0 σ' e' H' G' → Sub H' H'' → IsExc K mg c fs cls o H'' → W cls o σ' H''
  | .bad => False
def tS (K : PySem.W.Frag) (mg : Str → Option Value) (W : WX) (H0 G0 : Hp) (f : Env → Out) : TS := fun Z σ H => ∃ e G, StOk K H0 G0 σ e H G ∧ SPost K mg W H0 G0 (f e) Z
abbrev DS (X : Cx) (W : WX) (H0 G0 : Hp) (st : Stmt) (f : Env → Out) : Prop := PS X st (tS X.K X.mg W H0 G0 f)
abbrev DSs (X : Cx) (W : WX) (H0 G0 : Hp) (st : List Stmt) (f : Env → Out) : Prop := PSs X st (tS X.K X.mg W H0 G0 f)

/-- a reckoning, then what follows -/
def sE {α : Type} (al : List Nat) (f : Env → Res α) (k : α → Env → Out) : Env → Out := fun e => match f e with
  | .ok a => k a (fz al e)
  | .exc c fs => .ex c fs (fz al e)
  | .bad => .bad
section
variable {X : Cx} {W : WX} {H0 G0 : Hp}
theorem sE_step {al : List Nat} {α : Type} {f : Env → Res α} {k : α → Env → Out} {σ : L2.St} {H : Hp} {Z : Ends} (h : tS X.K X.mg W H0 G0 (sE al f k) Z σ H) :
    ∃ e G, EnvG X.K (fun i => i ∈ al) σ e H G ∧ PostG X.K X.mg (fun c o H' => W c o σ H') H G (f e) fun a H' G' => StOk X.K H0 G0 σ (fz al e) H' G' ∧ SPost X.K X.mg W H0 G0 (k a (fz al e)) Z := by
  obtain ⟨e, G, S, p⟩ := h
  obtain ⟨GA, E, nxt⟩ := S.exp al
  refine ⟨e, GA, E, ?_⟩
  unfold sE at p
  cases hr : f e with
  | ok a =>
    rw [hr] at p
    exact fun H' G' x => ⟨nxt H' G' x, p⟩
  | exc c fs =>
    rw [hr] at p
    exact fun cls o H' s ix => p cls o σ H GA H' (nxt H GA (Ext.refl E.sub)) s ix
  | bad =>
    rw [hr] at p
    exact p.elim

/-! ### the plain statements -/
variable {al : List Nat} {st : Stmt} {rest : List Stmt} {ex : Expr} {pos : Pos}
def sSkip : Env → Out := fun e => .nx e
def sSeq (f g : Env → Out) : Env → Out := fun e => match f e with
  | .nx e' => g e'
  | r => r
theorem dss_nil : DSs X W H0 G0 [] sSkip := pss_nil.imp fun Z σ H ⟨e, G, S, p⟩ => p σ H G S
theorem dss_one {f : Env → Out} (h : DS X W H0 G0 st f) : DSs X W H0 G0 [st] f := pss_one h
theorem dss_cons {f g : Env → Out} (h1 : DS X W H0 G0 st f) (h2 : DSs X W H0 G0 rest g) : DSs X W H0 G0 (st :: rest) (sSeq f g) :=
  (pss_cons h1 h2).imp fun Z σ H ⟨e, G, S, p⟩ => ⟨e, G, S, by
    unfold sSeq at p
    cases hr : f e with
    | nx e' => rw [hr] at p; exact fun σ' H' G' S' => ⟨e', G', S', p⟩
    | rt d => rw [hr] at p; exact p
    | ro d => rw [hr] at p; exact p
    | bk e' => rw [hr] at p; exact p
    | ct e' => rw [hr] at p; exact p
    | ex c fs e' => rw [hr] at p; exact p
    | bad => rw [hr] at p; exact p⟩
theorem ds_pass : DS X W H0 G0 (.Pass pos) sSkip := ps_pass.imp fun Z σ H ⟨e, G, S, p⟩ => p σ H G S
def sBreak : Env → Out := fun e => .bk e
def sCont : Env → Out := fun e => .ct e
theorem ds_break : DS X W H0 G0 (.Break pos) sBreak := ps_break.imp fun Z σ H ⟨e, G, S, p⟩ => p σ H G S
theorem ds_cont : DS X W H0 G0 (.Continue pos) sCont := ps_continue.imp fun Z σ H ⟨e, G, S, p⟩ => p σ H G S
def sRet (al : List Nat) (f : Env → Res D) : Env → Out := sE al f fun d _ => .rt d
theorem ds_ret {f : Env → Res D} (h : DE X W (fun i => i ∈ al) ex f) : DS X W H0 G0 (.Return (some ex) pos) (sRet al f) :=
  (ps_ret h).imp fun Z σ H hq => by
    obtain ⟨e, G, E, p⟩ := sE_step hq
    exact ⟨e, G, E, p.imp fun d H' G' x ⟨S, q⟩ v r => q v H' G' S.ext r⟩
/-- return x, x a list or dict of its own -/
def sRetO (i : Nat) : Env → Out := fun e => match e[i]? with
  | some (some (d, true)) => .ro d
  | some (some (d, false)) => .rt d
  | _ => .bad
theorem ds_retO {i : Nat} {x : Str} {p1 : Pos} (hN : X.N[i]? = some x) (hv : Vis X.env.scope x) (hd : (x == ("__debug__" : Str)) = false := by decide) (hcd : (x == ("__classdict__" : Str)) = false := by decide) : DS X W H0 G0 (.Return (some (.Name x p1)) pos) (sRetO i) :=
  (ps_ret (pe_var hN hv hd hcd)).imp fun Z σ H ⟨e, G, S, p⟩ => by
    unfold sRetO at p
    revert p
    split
    · rename_i d h
      intro p
      obtain ⟨a, q1, q2, q3, q4⟩ := S.ow i d h
      exact ⟨_, q1, p a H G S.ext q2 q3 q4⟩
    · rename_i d h
      intro p
      obtain ⟨v, q1, q2⟩ := S.sh i d h
      exact ⟨v, q1, p v H G S.ext q2⟩
    · exact fun p => p.elim
/-- return of a new list or dict -/
def sRetF (al : List Nat) (f : Env → Res D) : Env → Out := sE al f fun d _ => .ro d
theorem ds_retF {f : Env → Res D} (h : DF X W (fun i => i ∈ al) ex f) : DS X W H0 G0 (.Return (some ex) pos) (sRetF al f) :=
  (ps_ret h).imp fun Z σ H hq => by
    obtain ⟨e, G, S, p⟩ := hq
    obtain ⟨GA, E, nxt⟩ := S.exp al
    refine ⟨e, GA, E, ?_⟩
    unfold sRetF sE at p
    cases hr : f e with
    | ok d =>
      rw [hr] at p
      exact fun H' G' x a ha ga rc => p a H' G' (nxt H' G' x).ext (S.ext.hh.free ha) ga rc
    | exc c fs =>
      rw [hr] at p
      exact fun cls o H' s ix => p cls o σ H GA H' (nxt H GA (Ext.refl E.sub)) s ix
    | bad => rw [hr] at p; exact p.elim
def sRetN : Env → Out := fun _ => .rt .non
theorem ds_retN : DS X W H0 G0 (.Return none pos) sRetN := ps_retN.imp fun Z σ H ⟨e, G, S, p⟩ => p .non H G S.ext rfl
def sIf (al : List Nat) (ft : Env → Res Bool) (f g : Env → Out) : Env → Out := sE al ft fun b e => if b = true then f e else g e
theorem ds_if {c : Expr} {a b : List Stmt} {ft : Env → Res Bool} {f g : Env → Out} (hc : DT X W (fun i => i ∈ al) c ft) (ha : DSs X W H0 G0 a f) (hb : DSs X W H0 G0 b g) : DS X W H0 G0 (.If c a b pos) (sIf al ft f g) :=
  (ps_if hc ha hb).imp fun Z σ H hq => by
    obtain ⟨e, G, E, p⟩ := sE_step hq
    refine ⟨e, G, E, p.imp fun k H' G' x ⟨S, q⟩ => ?_⟩
    cases k with
    | true => rw [if_pos rfl] at q ⊢; exact ⟨_, G', S, q⟩
    | false => rw [if_neg Bool.false_ne_true] at q ⊢; exact ⟨_, G', S, q⟩
def sDrop (al : List Nat) (f : Env → Res D) : Env → Out := sE al f fun _ e => .nx e
theorem ds_drop {f : Env → Res D} (h : DE X W (fun i => i ∈ al) ex f) (hs : swapsWith ex none pos.line X.env = pure false := by rfl) : DS X W H0 G0 (.Expr ex pos) (sDrop al f) :=
  (ps_expr h hs).imp fun Z σ H hq => by
    obtain ⟨e, G, E, p⟩ := sE_step hq
    exact ⟨e, G, E, p.imp fun d H' G' x ⟨S, q⟩ v r => q σ H' G' S⟩
/-- x = e -/
def sSet (al : List Nat) (i : Nat) (f : Env → Res D) : Env → Out := sE al f fun d e => .nx (e.set i (some (d, false)))
theorem ds_set {i : Nat} {x : Str} {pos' : Pos} {f : Env → Res D} (hN : X.N.Nodup) (hi : X.N[i]? = some x) (hx : Loc X.env.scope x) (h : DE X W (fun i => i ∈ al) ex f) (hs : swapsWith ex (some (.Name x pos')) pos.line X.env = pure false := by rfl)
    (hf : X.fn x = true ∨ X.env.scope.names.lookup x = some .local := by first | exact .inl rfl | exact .inr rfl | assumption) : DS X W H0 G0 (.Assign [.Name x pos'] ex pos) (sSet al i f) :=
  (ps_set hN hi hx h hs hf).imp fun Z σ H hq => by
    obtain ⟨e, G, E, p⟩ := sE_step hq
    exact ⟨e, G, E, p.imp fun d H' G' _ ⟨S, q⟩ v r => q _ H' G' (S.set i r)⟩
/-- x = a new list or dict, to be changed -/
def sSetF (al : List Nat) (i : Nat) (f : Env → Res D) : Env → Out := sE al f fun d e => .nx (e.set i (some (d, true)))
theorem ds_setF {i : Nat} {x : Str} {pos' : Pos} {f : Env → Res D} (hN : X.N.Nodup) (hi : X.N[i]? = some x) (hx : Loc X.env.scope x) (h : DF X W (fun i => i ∈ al) ex f) (hs : swapsWith ex (some (.Name x pos')) pos.line X.env = pure false := by rfl)
    (hf : X.fn x = true ∨ X.env.scope.names.lookup x = some .local := by first | exact .inl rfl | exact .inr rfl | assumption) : DS X W H0 G0 (.Assign [.Name x pos'] ex pos) (sSetF al i f) :=
  (ps_set hN hi hx h hs hf).imp fun Z σ H ⟨e, G, S, p⟩ => by
    obtain ⟨GA, E, nxt⟩ := S.exp al
    refine ⟨e, GA, E, ?_⟩
    unfold sSetF sE at p
    cases hr : f e with
    | ok d =>
      rw [hr] at p
      intro H' G' x a ha ga rc
      have S' := nxt H' G' x
      refine p _ H' G' (S'.setF i (Hb := H) S.ext.hh (fun j d' b h1 h2 => ?_) ha ga rc)
      obtain ⟨o', w1, w2⟩ := fz_get al e j d' true h1
      have e1 : o' = true := by rcases w2 with ⟨z, _⟩ | ⟨z, _⟩; exact z.symm; cases z
      subst e1
      obtain ⟨a', q1, _, _, q4⟩ := S.ow j d' w1
      rw [h2] at q1; cases q1
      exact q4.is
    | exc c fs =>
      rw [hr] at p
      exact fun cls o H' s ix => p cls o σ H GA H' (nxt H GA (Ext.refl E.sub)) s ix
    | bad => rw [hr] at p; exact p.elim

/-! ### a, b = e -/
inductive Pat where
  | nm (i : Nat)
  | tp (ps : List Pat)
mutual
def Pat.bind : Pat → D → Env → Res Env
  | .nm i, d, e => .ok (e.set i (some (d, false)))
  | .tp ps, d, e => match d with
    | .tup ds => Pat.binds ps ds e
    | _ => .bad
def Pat.binds : List Pat → List D → Env → Res Env
  | [], [], e => .ok e
  | p :: ps, d :: ds, e => (Pat.bind p d e).bind fun e' => Pat.binds ps ds e'
  | _, _, _ => .bad
end
mutual
def Pat.slots : Pat → List Nat
  | .nm i => [i]
  | .tp ps => Pat.slotss ps
def Pat.slotss : List Pat → List Nat
  | [] => []
  | p :: ps => Pat.slots p ++ Pat.slotss ps
end
/-- what stays where a name of these is stored -/
def Setable (K : PySem.W.Frag) (sl : List Nat) (R : L2.St → Env → Hp → Hp → Prop) : Prop := ∀ σ e H G i d v, i ∈ sl → R σ e H G → Rep K G d v → R (σ.set i (some v)) (e.set i (some (d, false))) H G
/-- a target's reading: it stores by the pattern -/
def DG (X : Cx) (tg : Expr) (p : Pat) : Prop :=
  ∃ g, PG X tg g ∧ ∀ (R : L2.St → Env → Hp → Hp → Prop), Setable X.K p.slots R → ∀ (v : V) (σ : L2.St) (H G : Hp) (d : D) (e e' : Env) (Q : L2.St → Hp → Prop), R σ e H G → Sub G H → Rep X.K G d v → p.bind d e = .ok e' → (∀ σ', R σ' e' H G → Q σ' H) → g v σ H Q
def DGs (X : Cx) (tgs : List Expr) (ps : List Pat) : Prop :=
  ∃ g, PGs X tgs g ∧ ∀ (R : L2.St → Env → Hp → Hp → Prop), Setable X.K (Pat.slotss ps) R → ∀ (vs : List V) (σ : L2.St) (H G : Hp) (ds : List D) (e e' : Env) (Q : L2.St → Hp → Prop), R σ e H G → Sub G H → RepL X.K G ds vs → Pat.binds ps ds e = .ok e' → (∀ σ', R σ' e' H G → Q σ' H) → g vs σ H Q
theorem dg_name {i : Nat} {x : Str} (hN : X.N.Nodup) (hi : X.N[i]? = some x) (hx : Loc X.env.scope x) (hf : X.fn x = true ∨ X.env.scope.names.lookup x = some .local := by first | exact .inl rfl | exact .inr rfl | assumption) : DG X (.Name x pos) (.nm i) :=
  ⟨_, pg_name hN hi hx hf, fun R hR v σ H G d e e' Q S sg r h q => by
    cases h
    exact q _ (hR σ e H G i d v (by simp [Pat.slots]) S r)⟩
theorem dgs_nil : DGs X [] [] := ⟨_, pgs_nil, fun R hR vs σ H G ds e e' Q S sg r h q => by
  cases ds with
  | nil => cases h; exact ⟨r, q σ S⟩
  | cons d ds => cases h⟩
theorem dgs_cons {tg : Expr} {tgs : List Expr} {p : Pat} {ps : List Pat} (h1 : DG X tg p) (h2 : DGs X tgs ps)
    (hs : (assignEach (tg :: tgs) X.env).map (·.2) = assign tg X.env :: (assignEach tgs X.env).map (·.2) := by rfl) : DGs X (tg :: tgs) (p :: ps) := by
  obtain ⟨g1, a1, b1⟩ := h1
  obtain ⟨g2, a2, b2⟩ := h2
  refine ⟨_, pgs_cons a1 a2 hs, fun R hR vs σ H G ds e e' Q S sg r h q => ?_⟩
  cases ds with
  | nil => cases h
  | cons d ds =>
    obtain ⟨v, vr, ev, r1, r2⟩ := r
    dsimp only [Pat.binds] at h
    cases hb : p.bind d e with
    | exc c fs => rw [hb] at h; cases h
    | bad => rw [hb] at h; cases h
    | ok e1 =>
      rw [hb] at h
      refine ⟨v, vr, ev, b1 R (fun σ e H G i d v hi => hR σ e H G i d v (by simp [Pat.slotss, hi])) v σ H G d e e1 _ S sg r1 hb fun σ' S' => ?_⟩
      exact b2 R (fun σ e H G i d v hi => hR σ e H G i d v (by simp [Pat.slotss, hi])) vr σ' H G ds e1 e' Q S' sg r2 h q
theorem binds_length : ∀ (ps : List Pat) (ds : List D) (e e' : Env), Pat.binds ps ds e = .ok e' → ds.length = ps.length := by
  intro ps
  induction ps with
  | nil => intro ds e e' h; cases ds with
    | nil => rfl
    | cons _ _ => cases h
  | cons p ps ih => intro ds e e' h; cases ds with
    | nil => cases h
    | cons d ds =>
      dsimp only [Pat.binds] at h
      cases hb : p.bind d e with
      | exc c fs => rw [hb] at h; cases h
      | bad => rw [hb] at h; cases h
      | ok e1 => rw [hb] at h; rw [List.length_cons, List.length_cons, ih ds e1 e' h]
theorem dg_tup {tgs : List Expr} {k : Nat} {ps : List Pat} {n : Nat} (hc : X.calm = true) (h : DGs X tgs ps) (hl : ps.length = n)
    (hn : (assignEach tgs X.env).length = n := by rfl) (hst : (assignEach tgs X.env).findIdx? (·.1) = none := by rfl) : DG X (.Tuple tgs k pos) (.tp ps) := by
  obtain ⟨g, a, b⟩ := h
  refine ⟨_, pg_tup hc a hn hst, fun R hR v σ H G d e e' Q S sg r h q => ?_⟩
  cases d with
  | tup ds =>
    obtain ⟨p, vs, ev, s, r⟩ := r
    have h : Pat.binds ps ds e = .ok e' := h
    exact ⟨p, vs, ev, sg.pt s, by rw [r.length, binds_length ps ds e e' h, hl], b R (fun σ e H G i d v hi => hR σ e H G i d v (by simpa [Pat.slots] using hi)) vs σ H G ds e e' Q S sg r h q⟩
  | _ => cases h
theorem st_setable {K : PySem.W.Frag} {sl : List Nat} : Setable K sl (StOk K H0 G0) := fun σ e H G i d v _ S r => S.set i r
def sAsg (al : List Nat) (p : Pat) (f : Env → Res D) : Env → Out := sE al f fun d e => match p.bind d e with
  | .ok e' => .nx e'
  | _ => .bad
theorem ds_asg {tg : Expr} {p : Pat} {f : Env → Res D} (h : DE X W (fun i => i ∈ al) ex f) (hg : DG X tg p) (hs : swapsWithSole [tg] ex pos.line X.env = pure false := by rfl) (hw : swappedStores [tg] ex X.env = pure none := by rfl)
    (h1 : (assignEach [tg] X.env).map (·.2) = [assign tg X.env] := by rfl) : DS X W H0 G0 (.Assign [tg] ex pos) (sAsg al p f) := by
  obtain ⟨g, a, b⟩ := hg
  refine (ps_asg h a hs hw h1).imp fun Z σ H hq => ?_
  obtain ⟨e, G, E, p⟩ := sE_step hq
  refine ⟨e, G, E, p.imp fun d H' G' x ⟨S, q⟩ v r => ?_⟩
  cases hb : Pat.bind _ d (fz al e) with
  | ok e' =>
    rw [hb] at q
    exact b _ st_setable v σ H' G' d _ e' _ S S.ext.gh r hb fun σ2 S2 => q σ2 H' G' S2
  | exc c fs => rw [hb] at q; exact q.elim
  | bad => rw [hb] at q; exact q.elim

/-! ### lists changed in place -/
/-- the list that the name i holds, to be changed -/
def ownL (i : Nat) (e : Env) (k : List D → Out) : Out := match e[i]? with
  | some (some (.lst xs, true)) => k xs
  | _ => .bad
theorem StOk.ownL {σ : L2.St} {e : Env} {H G : Hp} {K : PySem.W.Frag} (S : StOk K H0 G0 σ e H G) {i : Nat} {xs : List D} (h : e[i]? = some (some (.lst xs, true))) : ∃ a vs, σ[i]? = some (some (.ref a)) ∧ H a = some (.lst vs) ∧ RepL K G xs vs := by
  obtain ⟨a, q1, q2, q3, vs, e, r⟩ := S.ow i _ h
  exact ⟨a, vs, q1, e, r⟩
end
end DL

namespace DL
open PySem PySem.Spec PyProof.Rows L2
open PySem.Builtin.Int (intBits)
section
variable {X : Cx} {W : WX} {H0 G0 : Hp} {al : List Nat} {ex : Expr} {es : List Expr} {pos apos cpos p1 p2 : Pos}
/-- a method that changes its list -/
def MutL (X : Cx) (id : String) (g : List D → List D → Option (List D)) : Prop :=
  ∃ r, MtR X id r ∧ ∀ (G H : Hp) (a : Addr) (xs : List D) (vs : List V) (ds : List D) (ws : List V) (xs' : List D) (Q : Hp → Prop), Sub G H → H a = some (.lst vs) → RepL X.K G xs vs → RepL X.K G ds ws → g xs ds = some xs' →
    (∀ vs', RepL X.K G xs' vs' → Q (upd H a (.lst vs'))) → r (.ref a) ws H fun _ H' => Q H'
def sMut (al : List Nat) (i : Nat) (g : List D → List D → Option (List D)) (fs : Env → Res (List D)) : Env → Out := fun e => ownL i (fz al e) fun xs => sE al fs (fun ds e' => match g xs ds with
  | some xs' => .nx (e'.set i (some (.lst xs', true)))
  | none => .bad) e
theorem ownL_inv {i : Nat} {e : Env} {k : List D → Out} {Z : Ends} {K : PySem.W.Frag} {mg : Str → Option Value} (p : SPost K mg W H0 G0 (ownL i e k) Z) : ∃ xs, e[i]? = some (some (.lst xs, true)) ∧ SPost K mg W H0 G0 (k xs) Z := by
  unfold ownL at p
  split at p
  · rename_i xs h; exact ⟨xs, h, p⟩
  · exact p.elim
theorem ds_mut {i : Nat} {x name : Str} {id : String} {g : List D → List D → Option (List D)} {fs : Env → Res (List D)} (slot : Slot "list" name id) (hty : typeOf (.builtin id) = pure (.type "method_descriptor")) (hm : MutL X id g)
    (hN : X.N[i]? = some x) (hv : Vis X.env.scope x) (h : DA X W (fun i => i ∈ al) (ex :: es) fs)
    (hd : (x == ("__debug__" : Str)) = false := by decide) (hcd : (x == ("__classdict__" : Str)) = false := by decide)
    (hbase : attributeBase (.Name x p1) name X.env (eval (.Name x p1) X.env) = eval (.Name x p1) X.env := by rfl)
    (hfew : ((backTo cpos (starEach (ex :: es) X.env)).all (fun x => !x.1) && (backToKw cpos (keywordEach [] X.env)).all (fun x => x.1.isSome)
      && decide ((ex :: es).length + ([] : List Keyword).length + (if ([] : List Keyword).isEmpty then 0 else 1) < 30)) = true := by rfl)
    (hline : (apos.endLine == cpos.line) = true := by rfl) (hs : starEach (ex :: es) X.env = (false, eval ex X.env) :: starEach es X.env := by rfl) (hplain : (backTo cpos (starEach es X.env)).any (·.1) = false := by rfl)
    (hsw : swapsWith (.Call (.Attribute (.Name x p1) name apos) (ex :: es) [] cpos) none pos.line X.env = pure false := by rfl) :
    DS X W H0 G0 (.Expr (.Call (.Attribute (.Name x p1) name apos) (ex :: es) [] cpos) pos) (sMut al i g fs) := by
  obtain ⟨r, m1, m2⟩ := hm
  refine (ps_expr (pe_bm PySem.F.plainAttrs_list slot hty m1 (pe_var hN hv hd hcd) h hbase hfew hline hs hplain) hsw).imp fun Z σ H ⟨e, G, S, p⟩ => ?_
  obtain ⟨GA, E, nxt⟩ := S.exp al
  have S1 := nxt H GA (Ext.refl E.sub)
  obtain ⟨xs, hx, p⟩ := ownL_inv p
  obtain ⟨a, vs, q1, q2, q3⟩ := S1.ownL hx
  refine ⟨.ref a, q1, .inl ⟨rfl, vs, SqL.of q2⟩, e, GA, E, ?_⟩
  unfold sE at p
  cases hr : fs e with
  | exc c fs' =>
    rw [hr] at p
    exact fun cls o H' s ix => p cls o σ H GA H' S1 s ix
  | bad => rw [hr] at p; exact p.elim
  | ok ds =>
    rw [hr] at p
    intro H' G' x ws rw
    have S2 := nxt H' G' x
    cases hg : g xs ds with
    | none => simp only [hg] at p; exact p.elim
    | some xs' =>
      simp only [hg] at p
      exact m2 G' H' a xs vs ds ws xs' (fun H3 => Z.nx σ H3) x.gh (x.hh _ _ q2) (q3.mono x.gg) rw hg fun vs' r' => p σ _ G' (S2.change hx q1 ⟨vs', upd_same, r'⟩)
def gAppend : List D → List D → Option (List D) := fun xs ds => match ds with
  | [d] => if xs.length < sizeLine then some (xs ++ [d]) else none
  | _ => none
theorem mut_append : MutL X "list.append" gAppend := by
  refine ⟨_, mt_append, fun G H a xs vs ds ws xs' Q sg ha r1 r2 hg q => ?_⟩
  match ds, hg with
  | [d], hg =>
    obtain ⟨w, _, rfl, rw, e⟩ := r2
    have e : _ = [] := e
    subst e
    dsimp only [gAppend] at hg
    by_cases hc : xs.length < sizeLine
    · rw [if_pos hc] at hg
      cases hg
      exact ⟨a, vs, w, rfl, rfl, ha, by rw [r1.length]; exact hc, q _ (r1.append (.cons rw .nil))⟩
    · rw [if_neg hc] at hg; cases hg
/-- xs.extend(ys), ys a list or a tuple -/
theorem extendL (l : Addr) (items : Array Value) (n : Nat) (b : Addr) (items2 : Array Value) (n2 : Nat) (dd : Option Addr) (sl : Array (Option Value)) (hc0 : ¬(!items.isEmpty && Builtin.List.listTooLong (items.size + items2.size)) = true) (hc1 : items.size ≤ sizeLine) (hs2 : items.size + items2.size ≤ sizeLine + 1) :
    Meets (Builtin.«list.extend» ⟨[.ref l, .ref b], []⟩) (fun _ R s => s.heap.get? l = some { cls := .type "list", dict := none, data := .seq items n, slots := #[] } ∧ s.heap.get? b = some { cls := .type "list", dict := dd, data := .seq items2 n2, slots := sl } ∧ R (.ok (.ret Value.none)) { s with heap := s.heap.update l (Obj.mapSeq fun x => x ++ items2), toks := s.toks }) :=
  .of_wp fun prog w A R s h => by
    obtain ⟨hp, g, d, tk, os⟩ := s; obtain ⟨hl, hb, h⟩ := h; have f1 := AutoSeq1.idx_int; have f2 := AutoSeq1.sub_tuple_tuple; have f3 := AutoSeq1.sub_list_list; have f4 := AutoSeq1.sub_tuple_list; have f5 := AutoSeq1.sub_list_tuple;
    have hz' : (items ++ items2).size ≤ sizeLine + 1 := by rw [Array.size_append]; exact hs2
    wp_walk using (wpAny_updateSeq hl rfl (hz := hc1) (_hz' := hz')), wpAny_loadPart' hl, wpAny_loadPart' hb; exact ⟨_, rfl, h⟩
theorem extendT (l : Addr) (items : Array Value) (n : Nat) (b : Addr) (items2 : Array Value) (n2 : Nat) (dd : Option Addr) (sl : Array (Option Value)) (hs0 : ¬(!items.isEmpty && Builtin.List.listTooLong (items.size + items2.size)) = true) (hs1 : items.size ≤ sizeLine) (hs2 : items.size + items2.size ≤ sizeLine + 1) :
    Meets (Builtin.«list.extend» ⟨[.ref l, .ref b], []⟩) (fun _ R s => s.heap.get? l = some { cls := .type "list", dict := none, data := .seq items n, slots := #[] } ∧ s.heap.get? b = some { cls := .type "tuple", dict := dd, data := .seq items2 n2, slots := sl } ∧ R (.ok (.ret Value.none)) { s with heap := s.heap.update l (Obj.mapSeq fun x => x ++ items2), toks := s.toks }) :=
  .of_wp fun prog w A R s h => by
    obtain ⟨hp, g, d, tk, os⟩ := s; obtain ⟨hl, hb, h⟩ := h; have f1 := AutoSeq1.idx_int; have f2 := AutoSeq1.sub_tuple_tuple; have f3 := AutoSeq1.sub_list_list; have f4 := AutoSeq1.sub_tuple_list; have f5 := AutoSeq1.sub_list_tuple;
    have hz' : (items ++ items2).size ≤ sizeLine + 1 := by rw [Array.size_append]; exact hs2
    wp_walk using (wpAny_updateSeq hl rfl (hz := hs1) (_hz' := hz')), wpAny_loadPart' hl, wpAny_loadPart' hb; exact ⟨_, rfl, h⟩
def rExtendR (K : PySem.W.Frag) : V → List V → Hp → VK → Prop := fun x vs H Q => ∃ l b xs zs, x = .ref l ∧ vs = [.ref b] ∧ H l = some (.lst xs) ∧ (SqL K H b zs ∨ SqT K H b zs) ∧ xs.length + zs.length ≤ sizeLine ∧ Q .non (upd H l (.lst (xs ++ zs)))
theorem mt_extendR : MtM X "list.extend" (rExtendR X.K) := by
  intro pins s σ H x vs v us Q I rx rv h
  obtain ⟨l, b, xs, zs, rfl, rfl, hH, hB, hz, q⟩ := h
  cases rx
  obtain ⟨u, rfl, ru⟩ := rv.one
  cases ru
  obtain ⟨z, its, n, r, hl, e⟩ := I.lstM hH
  have go : ∀ (its2 : List Value), Vals zs its2 → EP X pins σ Q .none { s with heap := s.heap.update l (Obj.mapSeq fun x => x ++ its2.toArray), toks := s.toks } := fun its2 r2 =>
    ⟨.non, _, I.lset (its' := its ++ its2) hH e (by simp) (r.append r2) (by rw [List.length_append]; omega), rfl, q⟩
  have hlong : ∀ (its2 : List Value), Vals zs its2 → ¬ (!its.toArray.isEmpty && Builtin.List.listTooLong (its.toArray.size + its2.toArray.size)) = true := fun its2 r2 => by
    have := r2.length
    have hsz : its.toArray.size + its2.toArray.size ≤ sizeLine := by rw [List.size_toArray, List.size_toArray]; omega
    rw [notLongL hsz, Bool.and_false]
    exact Bool.false_ne_true
  rcases hB with hB | hB
  · obtain ⟨its2, r2, ⟨⟨cls2, dd2, data2, sl2⟩, n2, ho2, hc2, hdd2, hd2⟩, _⟩ := I.list hB
    simp only at hc2 hd2
    subst hc2 hd2
    have := r2.length
    exact call_meets F.slot_list_extend ⟨_, e, rfl⟩ F.entry_list_extend (F.args_list_extend_2 _ _)
      (extendL l its.toArray n b its2.toArray n2 dd2 sl2 (hlong its2 r2) (by rw [List.size_toArray]; omega) (by simp only [List.size_toArray]; omega)) ⟨e, ho2, go its2 r2⟩
  · obtain ⟨its2, r2, ⟨⟨cls2, dd2, data2, sl2⟩, ho2, hc2, n2, hd2⟩, _⟩ := I.tuple hB
    simp only at hc2 hd2
    subst hc2 hd2
    have := r2.length
    exact call_meets F.slot_list_extend ⟨_, e, rfl⟩ F.entry_list_extend (F.args_list_extend_2 _ _)
      (extendT l its.toArray n b its2.toArray n2 dd2 sl2 (hlong its2 r2) (by rw [List.size_toArray]; omega) (by simp only [List.size_toArray]; omega)) ⟨e, ho2, go its2 r2⟩
def gExtend : List D → List D → Option (List D) := fun xs ds => match ds with
  | [.lst ys] => if xs.length + ys.length ≤ sizeLine then some (xs ++ ys) else none
  | [.tup ys] => if xs.length + ys.length ≤ sizeLine then some (xs ++ ys) else none
  | _ => none
theorem mut_extend : MutL X "list.extend" gExtend := by
  refine ⟨_, mt_extendR, fun G H a xs vs ds ws xs' Q sg ha r1 r2 hg q => ?_⟩
  match ds, hg with
  | [.lst ys], hg =>
    obtain ⟨w, _, rfl, ⟨b, zs, rfl, s, rz⟩, e⟩ := r2
    have e : _ = [] := e
    subst e
    dsimp only [gExtend] at hg
    by_cases hc : xs.length + ys.length ≤ sizeLine
    · rw [if_pos hc] at hg
      cases hg
      exact ⟨a, b, vs, zs, rfl, rfl, ha, .inl (sg.sql s), by rw [r1.length, rz.length]; exact hc, q _ (r1.append rz)⟩
    · rw [if_neg hc] at hg; cases hg
  | [.tup ys], hg =>
    obtain ⟨w, _, rfl, ⟨b, zs, rfl, s, rz⟩, e⟩ := r2
    have e : _ = [] := e
    subst e
    dsimp only [gExtend] at hg
    by_cases hc : xs.length + ys.length ≤ sizeLine
    · rw [if_pos hc] at hg
      cases hg
      exact ⟨a, b, vs, zs, rfl, rfl, ha, .inr (sg.pt s), by rw [r1.length, rz.length]; exact hc, q _ (r1.append rz)⟩
    · rw [if_neg hc] at hg; cases hg
/-- xs[i] = v -/
def sPutL (al : List Nat) (i : Nat) (fk fv : Env → Res D) : Env → Out := fun e => ownL i (fz al e) fun xs => sE al (fun e => (fv e).bind fun v => (fk e).bind fun k => .ok (k, v)) (fun kv e' => match kv.1 with
  | .int k => match ixN xs.length k with
    | some j => .nx (e'.set i (some (.lst (xs.set j kv.2), true)))
    | none => .bad
  | _ => .bad) e
theorem ds_putL {i : Nat} {x : Str} {ik ev : Expr} {fk fv : Env → Res D} (hN : X.N[i]? = some x) (hv : Vis X.env.scope x) (hk : DE X W (fun i => i ∈ al) ik fk) (he : DE X W (fun i => i ∈ al) ev fv)
    (hd : (x == ("__debug__" : Str)) = false := by decide) (hcd : (x == ("__classdict__" : Str)) = false := by decide)
    (ha : ∀ v, assign (.Subscript (.Name x p1) ik p2) X.env v = (do
      let ov ← holding [v] (eval (.Name x p1) X.env)
      let iv ← holding [v, ov] (eval ik X.env)
      standAt p2
      holding [v, ov, iv] (setItem ov iv v)
      release [v, ov, iv] []) := by intro _; rfl)
    (hs : swapsWithSole [.Subscript (.Name x p1) ik p2] ev pos.line X.env = pure false := by rfl) (hw : swappedStores [.Subscript (.Name x p1) ik p2] ev X.env = pure none := by rfl)
    (h1 : (assignEach [.Subscript (.Name x p1) ik p2] X.env).map (·.2) = [assign (.Subscript (.Name x p1) ik p2) X.env] := by rfl) :
    DS X W H0 G0 (.Assign [.Subscript (.Name x p1) ik p2] ev pos) (sPutL al i fk fv) := by
  refine (ps_asg he (pg_sub (pe_var hN hv hd hcd) hk set_list ha) hs hw h1).imp fun Z σ H ⟨e, G, S, p⟩ => ?_
  obtain ⟨GA, E, nxt⟩ := S.exp al
  have S1 := nxt H GA (Ext.refl E.sub)
  obtain ⟨xs, hx, p⟩ := ownL_inv p
  obtain ⟨a, vs, q1, q2, q3⟩ := S1.ownL hx
  unfold sE at p
  dsimp only at p
  refine ⟨e, GA, E, ?_⟩
  cases hr : fv e with
  | exc c fs' =>
    rw [hr] at p
    exact fun cls o H' s ix => p cls o σ H GA H' S1 s ix
  | bad => rw [hr] at p; exact p.elim
  | ok dv =>
    rw [hr] at p
    intro H1 G1 x1 v rv
    refine ⟨.ref a, q1, e, G1, E.ext x1, ?_⟩
    cases hr2 : fk e with
    | exc c fs' =>
      simp only [Res.bind_ok, hr2] at p
      exact fun cls o H' s ix => p cls o σ H1 G1 H' (nxt H1 G1 x1) s ix
    | bad => simp only [Res.bind_ok, hr2] at p; exact p.elim
    | ok dk =>
      simp only [Res.bind_ok, hr2] at p
      intro H2 G2 x2 k rk
      have S2 := nxt H2 G2 (x1.trans x2)
      cases dk with
      | int n =>
        simp only [] at p
        cases hj : ixN xs.length n with
        | none => simp only [hj] at p; exact p.elim
        | some j =>
          simp only [hj] at p
          have xx := x1.trans x2
          refine ⟨a, vs, n, j, rfl, rk, xx.hh _ _ q2, by rw [q3.length]; exact hj, ?_⟩
          exact p σ _ G2 (S2.change hx q1 ⟨_, upd_same, (q3.mono xx.gg).set (rv.mono x2.gg) j⟩)
      | _ => exact (show False from p).elim

/-! ### what a loop walks -/
/-- J yields ds; what is walked is read in B, its items in G -/
structure WalkOf (K : PySem.W.Frag) (J : It) (ds : List D) (B G : Hp) : Prop where
  go : ∀ H i, Sub B H → i < ds.length → J.go i H
  stop : ∀ H, Sub B H → J.stop ds.length H
  yld : ∀ H G2 i x H', Sub B H → Sub G G2 → Sub G2 H → i < ds.length → J.yld i H x H' → ∃ d G', ds[i]? = some d ∧ Ext H G2 H' G' ∧ Rep K G' d x
def tI (K : PySem.W.Frag) (mg : Str → Option Value) (W : WX) (A : Nat → Prop) (f : Env → Res (List D)) : TI := fun σ H R => ∃ e G, EnvG K A σ e H G ∧ PostG K mg (fun c o H' => W c o σ H') H G (f e) fun ds H' G' => ∀ J, WalkOf K J ds G' G' → R J H'
def tIR (K : PySem.W.Frag) (mg : Str → Option Value) (W : WX) (A : Nat → Prop) (f : Env → Res (List D)) : TI := fun σ H R => ∃ e G, EnvG K A σ e H G ∧ PostG K mg (fun c o H' => W c o σ H') H G (f e) fun ds H' G' => ∀ J, WalkOf K J ds H' G' → R J H'
abbrev DI (X : Cx) (W : WX) (A : Nat → Prop) (tg ex : Expr) (f : Env → Res (List D)) : Prop := PI X tg ex (tI X.K X.mg W A f)
abbrev DIR (X : Cx) (W : WX) (A : Nat → Prop) (tg ex : Expr) (f : Env → Res (List D)) : Prop := PI X tg ex (tIR X.K X.mg W A f)
theorem walk_list {K : PySem.W.Frag} {B G : Hp} {a : Addr} {ds : List D} {vs : List V} (s : SqL K B a vs) (r : RepL K G ds vs) : WalkOf K (Itl K a) ds B G where
  go := fun H i h hi => by
    have hl : i < vs.length := by rw [r.length]; exact hi
    exact ⟨vs, vs[i], h.sql s, by simp [hl]⟩
  stop := fun H h => ⟨vs, h.sql s, by rw [r.length]; exact Nat.le_refl _⟩
  yld := fun H G2 i x H' h g g2 hi y => by
    obtain ⟨e, y⟩ := y
    subst e
    obtain ⟨d, h1, h2⟩ := r.get' (y vs (h.sql s))
    exact ⟨d, G2, h1, Ext.refl g2, h2.mono g⟩
theorem walk_tup {K : PySem.W.Frag} {B G : Hp} {a : Addr} {ds : List D} {vs : List V} (s : SqT K B a vs) (r : RepL K G ds vs) : WalkOf K (Itt K a) ds B G where
  go := fun H i h hi => by
    have hl : i < vs.length := by rw [r.length]; exact hi
    exact ⟨vs, vs[i], h.sqt s, by simp [hl]⟩
  stop := fun H h => ⟨vs, h.sqt s, by rw [r.length]; exact Nat.le_refl _⟩
  yld := fun H G2 i x H' h g g2 hi y => by
    obtain ⟨e, y⟩ := y
    subst e
    obtain ⟨d, h1, h2⟩ := r.get' (y vs (h.sqt s))
    exact ⟨d, G2, h1, Ext.refl g2, h2.mono g⟩
theorem walk_range {K : PySem.W.Frag} {B G : Hp} (lo : Int) (n : Nat) : WalkOf K (Itr lo n) ((List.range n).map fun i => D.int (lo + (i : Nat))) B G where
  go := fun H i h hi => by
    show i < n
    simpa using hi
  stop := fun H h => by
    show n ≤ _
    simp
  yld := fun H G2 i x H' h g g2 hi y => by
    obtain ⟨e, y⟩ := y
    subst e
    have hi' : i < n := by simpa using hi
    exact ⟨.int (lo + i), G2, by simp [hi'], Ext.refl g2, y⟩
/-- over a list or tuple -/
def iSeq (f : Env → Res D) : Env → Res (List D) := fun e => (f e).bind fun d => match d with
  | .lst xs => .ok xs
  | .tup xs => .ok xs
  | .con xs => .ok xs
  | _ => .bad
/-- what is walked: a list or a tuple -/
def iSq (K : PySem.W.Frag) (te : TE) : TI := fun σ H R => te σ H fun x H1 => ∃ a, x = .ref a ∧ (((∃ xs, SqL K H1 a xs) ∧ R (Itl K a) H1) ∨ ((∃ xs, SqT K H1 a xs) ∧ R (Itt K a) H1))
theorem pi_sq {tg l : Expr} {tl : TE} (hl : PE X l tl) : PI X tg l (iSq X.K tl) := by
  refine ⟨fun pins s σ H R I h => ?_⟩
  refine thn (hl.run pins s σ H _ I h) fun v s1 ⟨x, H1, I1, r1, q1⟩ => ?_
  obtain ⟨a, e, q⟩ := q1
  subst e
  cases r1
  rcases q with ⟨⟨xs, hq⟩, q⟩ | ⟨⟨xs, hq⟩, q⟩
  · obtain ⟨its, rv, p, hz⟩ := I1.list hq
    refine wpAny_pyIter_list p.isList ?_
    refine ⟨s1.heap.objs.size, [s1.heap.objs.size], _, _, H1, rfl, I1.kept (t' := s1.toks) fun b o e => Heap.get?_push_of_some _ e, turn_list a _, ⟨_, Heap.get?_push_size _ rfl, rfl, rfl⟩, fun b hb => ?_, q⟩
    have e : b = s1.heap.objs.size := by simpa using hb
    subst e
    exact I1.fpOk (Nat.le_refl _) (I1.hok.fresh (Nat.le_refl _))
  · obtain ⟨its, rv, p, hz⟩ := I1.tuple hq
    refine wpAny_pyIter_tuple (show s1.heap.IsTuple a its.toArray from p) ?_
    refine ⟨s1.heap.objs.size, [s1.heap.objs.size], _, _, H1, rfl, I1.kept (t' := s1.toks) fun b o e => Heap.get?_push_of_some _ e, turn_tuple a _, ⟨_, Heap.get?_push_size _ rfl, rfl, rfl⟩, fun b hb => ?_, q⟩
    have e : b = s1.heap.objs.size := by simpa using hb
    subst e
    exact I1.fpOk (Nat.le_refl _) (I1.hok.fresh (Nat.le_refl _))
variable {A : Nat → Prop}
theorem di_seq {tg : Expr} {f : Env → Res D} (h : DE X W A ex f) : DI X W A tg ex (iSeq f) :=
  (pi_sq h).imp fun σ H Q ⟨e, G, E, p⟩ => ⟨e, G, E, p.split.imp fun d H1 G1 x1 p1 v rv => by
    cases d with
    | lst xs =>
      obtain ⟨a, vs, rfl, s, r⟩ := rv
      exact ⟨a, rfl, .inl ⟨⟨vs, x1.gh.sql s⟩, PostG.here (a := xs) p1 x1.gh _ (walk_list s r)⟩⟩
    | tup xs =>
      obtain ⟨a, vs, rfl, s, r⟩ := rv
      exact ⟨a, rfl, .inr ⟨⟨vs, x1.gh.pt s⟩, PostG.here (a := xs) p1 x1.gh _ (walk_tup (SqT.of s) r)⟩⟩
    | con xs =>
      obtain ⟨a, vs, rfl, s, r⟩ := rv
      exact ⟨a, rfl, .inr ⟨⟨vs, x1.gh.sqt s⟩, PostG.here (a := xs) p1 x1.gh _ (walk_tup s r)⟩⟩
    | _ => exact (show False from p1).elim⟩
/-- .. that is read alone (in a comprehension) -/
theorem dir_seq {tg : Expr} {f : Env → Res D} (h : DR X W A ex f) : DIR X W A tg ex (iSeq f) :=
  (pi_sq h).imp fun σ H Q ⟨e, G, E, p⟩ => ⟨e, G, E, p.split.imp fun d H1 G1 x1 p1 v rv => by
    cases d with
    | lst xs =>
      obtain ⟨a, vs, rfl, s, r⟩ := rv
      exact ⟨a, rfl, .inl ⟨⟨vs, s⟩, PostG.here (a := xs) p1 x1.gh _ (walk_list s r)⟩⟩
    | tup xs =>
      obtain ⟨a, vs, rfl, s, r⟩ := (show Rep X.K G1 (.tup xs) v from rv)
      exact ⟨a, rfl, .inr ⟨⟨vs, x1.gh.pt s⟩, PostG.here (a := xs) p1 x1.gh _ (walk_tup (x1.gh.pt s) r)⟩⟩
    | con xs =>
      obtain ⟨a, vs, rfl, s, r⟩ := (show Rep X.K G1 (.con xs) v from rv)
      exact ⟨a, rfl, .inr ⟨⟨vs, x1.gh.sqt s⟩, PostG.here (a := xs) p1 x1.gh _ (walk_tup (x1.gh.sqt s) r)⟩⟩
    | _ => exact (show False from p1).elim⟩
theorem WalkOf.low {K : PySem.W.Frag} {J : It} {ds : List D} {B B' G : Hp} (h : WalkOf K J ds B G) (s : Sub B B') : WalkOf K J ds B' G :=
  ⟨fun H i z => h.go H i (s.trans z), fun H z => h.stop H (s.trans z), fun H G2 i x H' z => h.yld H G2 i x H' (s.trans z)⟩
theorem dir_of {tg : Expr} {f : Env → Res (List D)} (h : DI X W A tg ex f) : DIR X W A tg ex f :=
  h.imp fun σ H Q ⟨e, G, E, p⟩ => ⟨e, G, E, p.imp fun ds H1 G1 x1 q J w => q J (w.low x1.gh)⟩
/-! ranges -/
def rangeD (lo hi : Int) : List D := (List.range (hi - lo).toNat).map fun i => D.int (lo + (i : Nat))
def iRange1 (f : Env → Res D) : Env → Res (List D) := fun e => (f e).bind fun d => match d with
  | .int n => if -(2 ^ 62) ≤ n ∧ n < 2 ^ 62 then .ok (rangeD 0 n) else .bad
  | _ => .bad
def iRange2 (f g : Env → Res D) : Env → Res (List D) := fun e => (f e).bind fun d => (g e).bind fun d2 => match d, d2 with
  | .int m, .int n => if -(2 ^ 62) ≤ m ∧ m < 2 ^ 62 ∧ -(2 ^ 62) ≤ n ∧ n < 2 ^ 62 then .ok (rangeD m n) else .bad
  | _, _ => .bad
theorem di_range1 {tg a : Expr} {p : Pos} {f : Env → Res D} (hg : Gl X "range") (hm : X.mg "range" = none) (ha : DE X W A a f) (hs : starEach [a] X.env = [(false, eval a X.env)] := by rfl) : DI X W A tg (.Call (.Name "range" p) [a] [] pos) (iRange1 f) :=
  (pi_range1 hg hm (pa_cons ha pa_nil hs) hs).imp fun σ H Q ⟨e, G, E, p⟩ => ⟨e, G, E, p.split.imp fun d H1 G1 x1 p1 v rv => by
    cases d with
    | int n =>
      have ev : v = .int n := rv
      subst ev
      dsimp only at p1
      by_cases hc : -(2 ^ 62) ≤ n ∧ n < 2 ^ 62
      · rw [if_pos hc] at p1
        refine ⟨n, rfl, hc.1, hc.2, p1.here x1.gh _ ?_⟩
        have : rangeD 0 n = (List.range n.toNat).map fun i => D.int (0 + (i : Nat)) := by unfold rangeD; rw [Int.sub_zero]
        rw [this]
        exact walk_range 0 n.toNat
      · rw [if_neg hc] at p1; exact p1.elim
    | _ => exact (show False from p1).elim⟩
theorem di_range2 {tg a b : Expr} {p : Pos} {f g : Env → Res D} (hg : Gl X "range") (hm : X.mg "range" = none) (ha : DE X W A a f) (hb : DE X W A b g) (hs : starEach [a, b] X.env = [(false, eval a X.env), (false, eval b X.env)] := by rfl) (hs2 : starEach [b] X.env = [(false, eval b X.env)] := by rfl) (he : starEach (a :: [b]) X.env = (false, eval a X.env) :: starEach [b] X.env := by rfl) (he2 : starEach (b :: []) X.env = (false, eval b X.env) :: starEach [] X.env := by rfl) :
    DI X W A tg (.Call (.Name "range" p) [a, b] [] pos) (iRange2 f g) :=
  (pi_range2 hg hm (pa_cons ha (pa_cons hb pa_nil he2) he) hs hs2).imp fun σ H Q ⟨e, G, E, p⟩ => ⟨e, G, E, p.split.imp fun d H1 G1 x1 p1 v rv => ⟨e, G1, E.ext x1, p1.split.imp fun d2 H2 G2 x2 p2 u ru => by
    cases d with
    | int m =>
      cases d2 with
      | int n =>
        have ev : v = .int m := rv
        have eu : u = .int n := ru
        subst ev eu
        dsimp only at p2
        by_cases hc : -(2 ^ 62) ≤ m ∧ m < 2 ^ 62 ∧ -(2 ^ 62) ≤ n ∧ n < 2 ^ 62
        · rw [if_pos hc] at p2
          exact ⟨m, n, rfl, hc, p2.here x2.gh _ (walk_range m (n - m).toNat)⟩
        · rw [if_neg hc] at p2; exact p2.elim
      | _ => exact (show False from p2).elim
    | _ => exact (show False from p2).elim⟩⟩

/-! ### for -/
theorem StOk.step {K : PySem.W.Frag} {σ : L2.St} {e : Env} {H G H' G' : Hp} (S2 : StOk K H0 G0 σ e H G) (x3 : Ext H G H' G') : StOk K H0 G0 σ e H' G' := by
  refine ⟨S2.ext.trans x3, S2.len, fun j d' h => ?_, fun j d' h => ?_, S2.ne⟩
  · obtain ⟨v, w1, w2⟩ := S2.sh j d' h
    exact ⟨v, w1, w2.mono x3.gg⟩
  · obtain ⟨a, w1, w2, w3, w4⟩ := S2.ow j d' h
    refine ⟨a, w1, w2, ?_, w4.mono x3.hh x3.gg⟩
    cases hga : G' a with
    | none => rfl
    | some u =>
      rcases x3.new a (by rw [hga]; simp) with z | z
      · exact absurd w3 z
      · exact absurd z w4.nfr
theorem Ext.down {H G1 H1 G G' H' : Hp} (x : Ext H G H' G') (y : Ext H G1 H1 G) : Ext H G1 H' G' :=
  ⟨x.hh, y.gg.trans x.gg, x.gh, fun b z => by
    rcases x.new b z with z | z
    · exact y.new b z
    · exact .inr z⟩
theorem StOk.down {K : PySem.W.Frag} {σ : L2.St} {e : Env} {H G H1 G1 : Hp} (S : StOk K H0 G1 σ e H G) (y : Ext H0 G0 H1 G1) : StOk K H0 G0 σ e H G := ⟨S.ext.down y, S.len, S.sh, S.ow, S.ne⟩
theorem StOk.up {K : PySem.W.Frag} {σ : L2.St} {e : Env} {H G G1 : Hp} (S : StOk K H0 G0 σ e H G) (s : Sub G1 G) (h : ∀ b, G b ≠ none → G1 b ≠ none ∨ Fr1 H0 b := by exact fun b z => .inl z) : StOk K H0 G1 σ e H G := ⟨⟨S.ext.hh, s, S.ext.gh, h⟩, S.len, S.sh, S.ow, S.ne⟩
/-- the turns -/
def turns (p : Pat) (body : Env → Out) : List D → Env → Out
  | [], e => .nx e
  | d :: ds, e => match p.bind d e with
    | .ok e1 => match body e1 with
      | .nx e2 => turns p body ds e2
      | .ct e2 => turns p body ds e2
      | .bk e2 => .nx e2
      | .rt d => .rt d
      | .ro d => .ro d
      | .ex c fs e2 => .ex c fs e2
      | .bad => .bad
    | _ => .bad
def sFor (al : List Nat) (p : Pat) (fi : Env → Res (List D)) (body : Env → Out) : Env → Out := sE al fi fun ds e => turns p body ds e
theorem ds_for {tg iter : Expr} {body : List Stmt} {p : Pat} {fi : Env → Res (List D)} {fb : Env → Out} (hp : PassesOwn (model X.prog X.w) X.A X.env X.xe) (hc : X.calm = true) (hi : DI X W (fun i => i ∈ al) tg iter fi) (hg : DG X tg p) (hb : ∀ G1, DSs X W H0 G1 body fb)
    (hs : ∀ x, foldedSetIterable iter X.env x = pure x := by intro _; rfl) : DS X W H0 G0 (.For tg iter body [] pos) (sFor al p fi fb) := by
  obtain ⟨g, g1, g2⟩ := hg
  -- the body's reading, whatever stays through it
  have hb' : PSs X body fun Z σ H => ∃ G1, tS X.K X.mg W H0 G1 fb Z σ H := ⟨fun pins s σ H D I ⟨G1, q⟩ => (hb G1).run pins s σ H D I q⟩
  refine (ps_for hp hc hi g1 hb' hs).imp fun Z σ H hq => ?_
  obtain ⟨e, G, E, p1⟩ := sE_step hq
  refine ⟨e, G, E, p1.imp fun ds H1 G1 x1 ⟨S1, q1⟩ J w => ?_⟩
  -- what holds between the turns
  refine ⟨fun i m σ2 H2 => m = ds.length - i ∧ i ≤ ds.length ∧ ∃ e2 G2, StOk X.K H0 G0 σ2 e2 H2 G2 ∧ Sub G1 G2 ∧ SPost X.K X.mg W H0 G0 (turns p fb (ds.drop i) e2) Z,
    ⟨ds.length, rfl, Nat.zero_le _, fz al e, G1, S1, Sub.refl _, q1⟩, ?_⟩
  rintro i m σ2 H2 ⟨rfl, hi, e2, G2, S2, g12, q2⟩
  by_cases hlt : i < ds.length
  · refine .inr ⟨w.go H2 i (g12.trans S2.ext.gh) hlt, fun σ3 H3 => ∃ e3 G3, StOk X.K H0 G0 σ3 e3 H3 G3 ∧ Sub G1 G3 ∧ SPost X.K X.mg W H0 G0 (turns p fb (ds.drop (i + 1)) e3) Z, ?_, ?_⟩
    · rintro σ3 H3 ⟨e3, G3, S3, g13, q3⟩
      exact ⟨ds.length - (i + 1), by omega, rfl, hlt, e3, G3, S3, g13, q3⟩
    · intro x H3 y
      obtain ⟨d, G3, hd, x3, rd⟩ := w.yld H2 G2 i x H3 (g12.trans S2.ext.gh) g12 S2.ext.gh hlt y
      have S3 : StOk X.K H0 G0 σ2 e2 H3 G3 := S2.step x3
      have e0 : ds.drop i = d :: ds.drop (i + 1) := by
        rw [List.drop_eq_getElem_cons hlt]
        have : ds[i] = d := by
          have := List.getElem?_eq_getElem hlt
          rw [hd] at this
          exact (Option.some.inj this).symm
        rw [this]
      rw [e0] at q2
      dsimp only [turns] at q2
      cases hb : p.bind d e2 with
      | exc c fs => rw [hb] at q2; exact q2.elim
      | bad => rw [hb] at q2; exact q2.elim
      | ok e3 =>
        rw [hb] at q2
        dsimp only at q2
        refine g2 _ st_setable x σ2 H3 G3 d e2 e3 _ S3 S3.ext.gh rd hb fun σ4 S4 => ⟨G3, e3, G3, S4.up (Sub.refl _), ?_⟩
        have g14 : Sub G1 G3 := g12.trans x3.gg
        cases hr : fb e3 with
        | nx e4 =>
          rw [hr] at q2
          exact fun σ5 H5 G5 S5 => ⟨e4, G5, S5.down S4.ext, g14.trans S5.ext.gg, q2⟩
        | ct e4 =>
          rw [hr] at q2
          exact fun σ5 H5 G5 S5 => ⟨e4, G5, S5.down S4.ext, g14.trans S5.ext.gg, q2⟩
        | bk e4 => rw [hr] at q2; exact fun σ5 H5 G5 S5 => q2 σ5 H5 G5 (S5.down S4.ext)
        | rt d => rw [hr] at q2; exact fun v H5 G5 x5 => q2 v H5 G5 (x5.down S4.ext)
        | ro d => rw [hr] at q2; exact fun a H5 G5 x5 => q2 a H5 G5 (x5.down S4.ext)
        | ex c fs e4 => rw [hr] at q2; exact fun cls o σ5 H5 G5 H6 S5 => q2 cls o σ5 H5 G5 H6 (S5.down S4.ext)
        | bad => rw [hr] at q2; exact q2.elim
  · have ei : i = ds.length := by omega
    subst ei
    refine .inl ⟨w.stop H2 (g12.trans S2.ext.gh), ?_⟩
    rw [List.drop_length] at q2
    exact q2 σ2 H2 G2 S2
end
end DL

namespace DL
open PySem PySem.Spec PyProof.Rows L2
open PySem.Builtin.Int (intBits)

/-! ### while -/
/-- so many turns at most -/
def whileN (al : List Nat) (ft : Env → Res Bool) (fb : Env → Out) : Nat → Env → Out
  | 0, _ => .bad
  | n + 1, e => match ft e with
    | .ok true => match fb (fz al e) with
      | .nx e2 => whileN al ft fb n e2
      | .ct e2 => whileN al ft fb n e2
      | .bk e2 => .nx e2
      | .rt d => .rt d
      | .ro d => .ro d
      | .ex c fs e2 => .ex c fs e2
      | .bad => .bad
    | .ok false => .nx (fz al e)
    | .exc c fs => .ex c fs (fz al e)
    | .bad => .bad
def Out.fine : Out → Prop
  | .bad => False
  | _ => True
open Classical in
/-- as many turns as it takes -/
noncomputable def sWhile (al : List Nat) (ft : Env → Res Bool) (fb : Env → Out) : Env → Out := fun e => if h : ∃ n, (whileN al ft fb n e).fine then whileN al ft fb (Classical.choose h) e else .bad
theorem whileN_more (al : List Nat) (ft : Env → Res Bool) (fb : Env → Out) : ∀ (n m : Nat) (e : Env), (whileN al ft fb n e).fine → n ≤ m → whileN al ft fb m e = whileN al ft fb n e
  | 0, _, _, h, _ => h.elim
  | n + 1, 0, _, _, hm => absurd hm (by omega)
  | n + 1, m + 1, e, h, hm => by
    dsimp only [whileN] at h ⊢
    cases hf : ft e with
    | exc c fs => rfl
    | bad => rfl
    | ok b =>
      cases b with
      | false => rfl
      | true =>
        simp only [hf] at h
        dsimp only
        cases hb : fb (fz al e) with
        | nx e2 => simp only [hb] at h; exact whileN_more al ft fb n m e2 h (by omega)
        | ct e2 => simp only [hb] at h; exact whileN_more al ft fb n m e2 h (by omega)
        | bk e2 => rfl
        | rt d => rfl
        | ro d => rfl
        | ex c fs e2 => rfl
        | bad => rfl
theorem sWhile_of {al : List Nat} {ft : Env → Res Bool} {fb : Env → Out} {e : Env} {n : Nat} (h : (whileN al ft fb n e).fine) : sWhile al ft fb e = whileN al ft fb n e := by
  unfold sWhile
  have hx : ∃ n, (whileN al ft fb n e).fine := ⟨n, h⟩
  rw [dif_pos hx]
  have hc := Classical.choose_spec hx
  rcases Nat.le_total n (Classical.choose hx) with z | z
  · exact whileN_more al ft fb n _ e h z
  · exact (whileN_more al ft fb _ n e hc z).symm
/-- one turn of a while -/
theorem sWhile_eq (al : List Nat) (ft : Env → Res Bool) (fb : Env → Out) (e : Env) : sWhile al ft fb e = (match ft e with
    | .ok true => match fb (fz al e) with
      | .nx e2 => sWhile al ft fb e2
      | .ct e2 => sWhile al ft fb e2
      | .bk e2 => .nx e2
      | .rt d => .rt d
      | .ro d => .ro d
      | .ex c fs e2 => .ex c fs e2
      | .bad => .bad
    | .ok false => .nx (fz al e)
    | .exc c fs => .ex c fs (fz al e)
    | .bad => .bad) := by
  have step : ∀ e2, (∀ n, whileN al ft fb (n + 1) e = whileN al ft fb n e2) → sWhile al ft fb e = sWhile al ft fb e2 := fun e2 h => by
    by_cases hx : ∃ n, (whileN al ft fb n e2).fine
    · obtain ⟨n, hn⟩ := hx
      rw [sWhile_of hn, sWhile_of (n := n + 1) (by rw [h]; exact hn), h]
    · have hy : ¬ ∃ n, (whileN al ft fb n e).fine := fun ⟨n, hn⟩ => by
        cases n with
        | zero => exact hn
        | succ n => rw [h] at hn; exact hx ⟨n, hn⟩
      unfold sWhile
      rw [dif_neg hx, dif_neg hy]
  have one : ∀ r, r.fine → (∀ n, whileN al ft fb (n + 1) e = r) → sWhile al ft fb e = r := fun r hr h => by
    rw [sWhile_of (n := 1) (by rw [h 0]; exact hr), h 0]
  have none : (∀ n, whileN al ft fb (n + 1) e = .bad) → sWhile al ft fb e = .bad := fun h => by
    have hy : ¬ ∃ n, (whileN al ft fb n e).fine := fun ⟨n, hn⟩ => by
      cases n with
      | zero => exact hn
      | succ n => rw [h] at hn; exact hn
    unfold sWhile
    rw [dif_neg hy]
  cases hf : ft e with
  | exc c fs => exact one _ trivial fun n => by simp only [whileN, hf]
  | bad => exact none fun n => by simp only [whileN, hf]
  | ok b =>
    cases b with
    | false => exact one _ trivial fun n => by simp only [whileN, hf]
    | true =>
      dsimp only
      cases hb : fb (fz al e) with
      | nx e2 => exact step e2 fun n => by simp only [whileN, hf, hb]
      | ct e2 => exact step e2 fun n => by simp only [whileN, hf, hb]
      | bk e2 => exact one _ trivial fun n => by simp only [whileN, hf, hb]
      | rt d => exact one _ trivial fun n => by simp only [whileN, hf, hb]
      | ro d => exact one _ trivial fun n => by simp only [whileN, hf, hb]
      | ex c fs e2 => exact one _ trivial fun n => by simp only [whileN, hf, hb]
      | bad => exact none fun n => by simp only [whileN, hf, hb]
section
variable {X : Cx} {W : WX} {H0 G0 : Hp} {al : List Nat} {ex : Expr} {es : List Expr} {pos apos cpos p1 p2 : Pos}
theorem ds_while {c : Expr} {body : List Stmt} {ft : Env → Res Bool} {fb : Env → Out} (hp : PassesOwn (model X.prog X.w) X.A X.env X.xe) (hc : DT X W (fun i => i ∈ al) c ft) (hb : DSs X W H0 G0 body fb) : DS X W H0 G0 (.While c body [] pos) (sWhile al ft fb) := by
  refine (ps_while hp hc hb).imp fun Z σ H ⟨e, G, S, p⟩ => ?_
  have hx : ∃ n, (whileN al ft fb n e).fine := by
    refine Classical.byContradiction fun h => ?_
    unfold sWhile at p
    rw [dif_neg h] at p
    exact p
  obtain ⟨n, hn⟩ := hx
  rw [sWhile_of hn] at p
  refine ⟨fun m σ2 H2 => ∃ e2 G2, StOk X.K H0 G0 σ2 e2 H2 G2 ∧ SPost X.K X.mg W H0 G0 (whileN al ft fb m e2) Z, ⟨n, e, G, S, p⟩, ?_⟩
  rintro m σ2 H2 ⟨e2, G2, S2, q2⟩
  cases m with
  | zero => exact q2.elim
  | succ m =>
    obtain ⟨GA, E, nxt⟩ := S2.exp al
    refine ⟨e2, GA, E, ?_⟩
    dsimp only [whileN] at q2
    cases hf : ft e2 with
    | exc c fs =>
      simp only [hf] at q2
      exact fun cls o H' s ix => q2 cls o σ2 H2 GA H' (nxt H2 GA (Ext.refl E.sub)) s ix
    | bad => simp only [hf] at q2; exact q2.elim
    | ok b =>
      intro H3 G3 x3
      have S3 := nxt H3 G3 x3
      cases b with
      | false =>
        simp only [hf] at q2
        dsimp only
        rw [if_neg Bool.false_ne_true]
        exact q2 σ2 H3 G3 S3
      | true =>
        simp only [hf] at q2
        dsimp only
        rw [if_pos rfl]
        refine ⟨fun σ' H' => ∃ e' G', StOk X.K H0 G0 σ' e' H' G' ∧ SPost X.K X.mg W H0 G0 (whileN al ft fb m e') Z, fun σ' H' h => ⟨m, Nat.lt_succ_self m, h⟩, _, G3, S3, ?_⟩
        cases hr : fb (fz al e2) with
        | nx e4 => simp only [hr] at q2; exact fun σ5 H5 G5 S5 => ⟨e4, G5, S5, q2⟩
        | ct e4 => simp only [hr] at q2; exact fun σ5 H5 G5 S5 => ⟨e4, G5, S5, q2⟩
        | bk e4 => simp only [hr] at q2; exact q2
        | rt d => simp only [hr] at q2; exact q2
        | ro d => simp only [hr] at q2; exact q2
        | ex c fs e4 => simp only [hr] at q2; exact q2
        | bad => simp only [hr] at q2; exact q2.elim

/-! ### calls of defs -/
/-- what a def of so many parameters promises: what F says -/
def spD (K : PySem.W.Frag) (mg : Str → Option Value) (n : Nat) (F : List D → Res D) : Sp := fun vs H Q E => vs.length = n ∧ ∃ ds G, Sub G H ∧ RepL K G ds vs ∧ PostG K mg E H G (F ds) fun d H' G' => ∀ v, Rep K G' d v → Q v H'
structure CallOk (P : Program) (w : World) (K : PySem.W.Frag) (mg : Str → Option Value) (base : Heap) (k : Nat) (x : Str) (ps : List Str) (F : List D → Res D) : Prop where
  ok : ∃ f fd, mg x = some (.ref f) ∧ PySem.W.keepIn K (.ref f) = true ∧ Binds K fd ps [] ∧ FnOk P w K mg base (L2.CX P w) k f fd ps (spD K mg ps.length F)
def eCall (F : List D → Res D) (fs : Env → Res (List D)) : Env → Res D := fun e => (fs e).bind F
theorem de_call {A : Nat → Prop} {x : Str} {p : Pos} {k : Nat} {ps : List Str} {F : List D → Res D} {fs : Env → Res (List D)} (c : CallOk X.prog X.w X.K X.mg X.base k x ps F) (hr : Room k X.A) (hg : Gl X x) (tk : Takes X W) (ha : DA X W A (ex :: es) fs) (hl : LenIs fs ps.length) (hl2 : ∀ e ds, fs e = .ok ds → ps.length ≤ ds.length)
    (hdb : (x == ("__debug__" : Str)) = false := by decide) (he : starEach (ex :: es) X.env = (false, eval ex X.env) :: starEach es X.env := by rfl) (hpl : (backTo pos (starEach es X.env)).any (·.1) = false := by rfl) :
    DE X W A (.Call (.Name x p) (ex :: es) [] pos) (eCall F fs) := by
  obtain ⟨f, fd, hm, hk, hb, hF⟩ := c.ok
  refine (pe_callS hF hr hg hm hk hb (fun σ => passAt tk σ) ha hdb he hpl).imp fun σ H Q ⟨e, G, E, p⟩ => ⟨e, G, E, p.split.ifok fun ds H1 G1 hk x1 p1 vs rs => ?_⟩
  exact ⟨by rw [rs.length]; exact Nat.le_antisymm (hl e ds hk) (hl2 e ds hk), ds, G1, x1.gh, rs, p1⟩
/-- .. exactly so long -/
def LenEq (fs : Env → Res (List D)) (n : Nat) : Prop := ∀ e ds, fs e = .ok ds → ds.length = n
theorem leq_nil : LenEq aNil 0 := fun e ds h => by cases h; rfl
theorem leq_cons {f : Env → Res D} {fs : Env → Res (List D)} {n : Nat} (h : LenEq fs n) : LenEq (aCons f fs) (n + 1) := fun e ds q => by
  unfold aCons at q
  cases hf : f e with
  | ok d =>
    rw [hf] at q
    cases hs : fs e with
    | ok es => rw [hs] at q; cases q; exact congrArg (· + 1) (h e es hs)
    | exc c x => rw [hs] at q; cases q
    | bad => rw [hs] at q; cases q
  | exc c x => rw [hf] at q; cases q
  | bad => rw [hf] at q; cases q
theorem de_callE {A : Nat → Prop} {x : Str} {p : Pos} {k : Nat} {ps : List Str} {F : List D → Res D} {fs : Env → Res (List D)} (c : CallOk X.prog X.w X.K X.mg X.base k x ps F) (hr : Room k X.A) (hg : Gl X x) (tk : Takes X W) (ha : DA X W A (ex :: es) fs) (hl : LenEq fs ps.length)
    (hdb : (x == ("__debug__" : Str)) = false := by decide) (he : starEach (ex :: es) X.env = (false, eval ex X.env) :: starEach es X.env := by rfl) (hpl : (backTo pos (starEach es X.env)).any (·.1) = false := by rfl) :
    DE X W A (.Call (.Name x p) (ex :: es) [] pos) (eCall F fs) := de_call c hr hg tk ha (fun e ds h => Nat.le_of_eq (hl e ds h)) (fun e ds h => Nat.le_of_eq (hl e ds h).symm) hdb he hpl

/-! ### a def keeps its promise -/
def env0 (n m : Nat) (ds : List D) : Env := ds.map (fun d => some (d, false)) ++ List.replicate (m - n) none
def runDef (n m : Nat) (fb : Env → Out) : List D → Res D := fun ds => match fb (env0 n m ds) with
  | .rt d => .ok d
  | .ro d => .ok d
  | .nx _ => .ok .non
  | .ex c fs _ => .exc c fs
  | _ => .bad
abbrev wE (E : XK) : WX := fun cls o _ H => E cls o H
theorem fnD {P : Program} {w : World} {K : PySem.W.Frag} {mg : Str → Option Value} {base : Heap} {x qual : Str} {st : Stmt} {f : Addr} {fd : FuncData} {N ps : List Str} {k : Nat} {fb : Env → Out} (F : Fun K x qual st f fd) (S : FnScope N ps (defScope st))
    (hbody : ∀ (cdv : Value) (A : Around) (outer : List PySem.Env) (s : Shared) (H G : Hp) (E : XK), Room k (A.deeper (envOfC qual (defScope st) s.heap.objs.size f cdv)) →
      Takes (cxOf (L2.CX P w) P w K mg base N qual (defScope st) f cdv A outer s H E) (wE E) → PassesOwn (model P w) (A.deeper (envOfC qual (defScope st) s.heap.objs.size f cdv)) (envOfC qual (defScope st) s.heap.objs.size f cdv) (cxOf (L2.CX P w) P w K mg base N qual (defScope st) f cdv A outer s H E).xe →
      DSs (cxOf (L2.CX P w) P w K mg base N qual (defScope st) f cdv A outer s H E) (wE E) H G (defBody st) fb) :
    FnOk P w K mg base (L2.CX P w) (k + 1) f fd ps (spD K mg ps.length (runDef ps.length N.length fb)) := by
  refine F.okX S (fun vs H Q E h => h.1) fun cdv A outer s H vs Q E hr h => ?_
  obtain ⟨hl, ds, G, sg, r, p⟩ := h
  refine ⟨_, hbody cdv A outer s H G E hr (takes_of rfl rfl rfl rfl) (passes_of rfl), env0 ps.length N.length ds, G, ?_, ?_⟩
  · have hps : ps.length ≤ N.length := by have := congrArg List.length S.pre; rw [List.length_take] at this; omega
    have hdl := r.length
    have get : ∀ (i : Nat) (d : D) (o : Bool), (env0 ps.length N.length ds)[i]? = some (some (d, o)) → o = false ∧ ds[i]? = some d := fun i d o h => by
      unfold env0 at h
      by_cases hi : i < ds.length
      · rw [List.getElem?_append_left (by simpa using hi), List.getElem?_map] at h
        cases q : ds[i]? with
        | none => rw [q] at h; cases h
        | some d' => rw [q] at h; cases h; exact ⟨rfl, rfl⟩
      · rw [List.getElem?_append_right (by simpa using hi), List.getElem?_replicate] at h
        split at h <;> cases h
    refine ⟨⟨Sub.refl _, Sub.refl _, sg, fun b z => .inl z⟩, ?_, fun i d h => ?_, fun i d h => ?_, fun i j d d' a h => ?_⟩
    · unfold L2.start env0
      simp only [List.length_append, List.length_map, List.length_replicate]
      omega
    · obtain ⟨_, h2⟩ := get i d false h
      obtain ⟨v, h3, h4⟩ := r.get h2
      refine ⟨v, ?_, h4⟩
      have hi : i < vs.length := (List.getElem?_eq_some_iff.mp h3).1
      unfold L2.start
      rw [List.getElem?_append_left (by simpa using hi), List.getElem?_map, h3]
      rfl
    · exact absurd (get i d true h).1 (by simp)
    · exact absurd (get i d true h).1 (by simp)
  · unfold runDef at p
    cases hr : fb (env0 ps.length N.length ds) with
    | rt d =>
      rw [hr] at p
      exact fun v H' G' x r => p H' G' x v r
    | ro d =>
      rw [hr] at p
      intro a H' G' x ha ga rc
      obtain ⟨G2, y, r⟩ := own_share x ha ga rc
      exact p H' G2 y _ r
    | nx e' =>
      rw [hr] at p
      exact fun σ' H' G' S' => p H' G' S'.ext .non rfl
    | ex c fs e' =>
      rw [hr] at p
      exact fun cls o σ' H' G' H2 S' s2 ix => p cls o H2 (S'.ext.hh.trans s2) ix
    | bk e' => rw [hr] at p; exact p.elim
    | ct e' => rw [hr] at p; exact p.elim
    | bad => rw [hr] at p; exact p.elim
/-- where nothing is promised -/
theorem fn_bad {P : Program} {w : World} {K : PySem.W.Frag} {mg : Str → Option Value} {base : Heap} {f : Addr} {fd : FuncData} {ps : List Str} {k : Nat} {F : List D → Res D} (h : ∀ ds, F ds = .bad) : FnOk P w K mg base (L2.CX P w) k f fd ps (spD K mg ps.length F) :=
  ⟨fun vs H Q E h => h.1, fun A outer s H args us vs Q E _ _ _ _ ⟨_, ds, G, _, _, p⟩ => by rw [h ds] at p; exact p.elim⟩
end
end DL

namespace DL
open PySem PySem.Spec PyProof.Rows L2
open PySem.Builtin.Int (intBits)

/-! ### comprehensions -/
def wipeE (e : Env) : List Nat → Env
  | [] => e
  | v :: vs => (wipeE e vs).set v none
theorem wipeE_length (e : Env) : ∀ vs : List Nat, (wipeE e vs).length = e.length
  | [] => rfl
  | v :: vs => by unfold wipeE; rw [List.length_set, wipeE_length e vs]
theorem wipe_other {σ : L2.St} {i : Nat} : ∀ {vs : List Nat}, i ∉ vs → (wipe σ vs)[i]? = σ[i]?
  | [], _ => rfl
  | v :: vs, h => by
    unfold wipe
    rw [List.getElem?_set_ne (fun z => h (by simp [z])), wipe_other (fun z => h (by simp [z]))]
theorem wipeE_get {e : Env} {i : Nat} {x : D × Bool} : ∀ {vs : List Nat}, (wipeE e vs)[i]? = some (some x) → e[i]? = some (some x) ∧ i ∉ vs
  | [], h => ⟨h, by simp⟩
  | v :: vs, h => by
    unfold wipeE at h
    rcases set_get h with ⟨_, z⟩ | ⟨hi, z⟩
    · cases z
    · obtain ⟨a, b⟩ := wipeE_get z
      exact ⟨a, by simp [hi, b]⟩
theorem wipe_set {σ : L2.St} {i : Nat} {x : Option V} : ∀ {vs : List Nat}, i ∈ vs → wipe (σ.set i x) vs = wipe σ vs
  | [], h => by simp at h
  | v :: vs, h => by
    unfold wipe
    by_cases hv : i ∈ vs
    · rw [wipe_set hv]
    · have e : i = v := by simpa [hv] using h
      subst e
      have key : ∀ (ws : List Nat) (τ : L2.St), i ∉ ws → wipe (τ.set i x) ws = (wipe τ ws).set i x := by
        intro ws
        induction ws with
        | nil => intro τ _; rfl
        | cons w ws ih =>
          intro τ hw
          unfold wipe
          rw [ih τ (fun z => hw (by simp [z])), List.set_comm _ _ (fun z => hw (by simp [z]))]
      rw [key vs σ hv, List.set_set]
theorem wipe_idem {σ : L2.St} : ∀ (vs : List Nat), wipe (wipe σ vs) vs = wipe σ vs := by
  have swap : ∀ (ws : List Nat) (τ : L2.St) (i : Nat), wipe (τ.set i none) ws = (wipe τ ws).set i none := by
    intro ws
    induction ws with
    | nil => intro τ i; rfl
    | cons w ws ih =>
      intro τ i
      unfold wipe
      rw [ih]
      by_cases h : i = w
      · subst h; rfl
      · rw [List.set_comm _ _ h]
  intro vs
  induction vs with
  | nil => rfl
  | cons v vs ih =>
    show (wipe ((wipe σ vs).set v none) vs).set v none = (wipe σ vs).set v none
    rw [swap, ih, List.set_set]
theorem EnvG.wipe {K : PySem.W.Frag} {A : Nat → Prop} {σ : L2.St} {e : Env} {H G : Hp} (h : EnvG K A σ e H G) (vs : List Nat) : EnvG K A (L2.wipe σ vs) (wipeE e vs) H G :=
  ⟨h.sub, by rw [wipe_length, wipeE_length]; exact h.len, fun i d o hi => by
    obtain ⟨a, b⟩ := wipeE_get hi
    rw [wipe_other b]
    exact h.val i d o a⟩
theorem EnvG.set {K : PySem.W.Frag} {A : Nat → Prop} {σ : L2.St} {e : Env} {H G : Hp} (h : EnvG K A σ e H G) (i : Nat) {d : D} {v : V} (r : Rep K G d v) : EnvG K A (σ.set i (some v)) (e.set i (some (d, false))) H G :=
  ⟨h.sub, by rw [List.length_set, List.length_set]; exact h.len, fun j d' o hj => by
    rcases set_get hj with ⟨rfl, z⟩ | ⟨hij, z⟩
    · cases z
      have hl : j < e.length := by
        by_cases hl : j < e.length
        · exact hl
        · rw [List.getElem?_eq_none (by simpa using hl)] at hj; cases hj
      exact ⟨v, List.getElem?_set_self (by rw [h.len]; exact hl), fun _ => r, r.c h.sub⟩
    · rw [List.getElem?_set_ne (Ne.symm hij)]
      exact h.val j d' o z⟩
/-- the items: what is walked, by the pattern, where the test holds -/
def compL (e : Env) (p : Pat) (ft : Env → Res Bool) (fe : Env → Res D) : List D → Res (List D)
  | [] => .ok []
  | d :: ds => match p.bind d e with
    | .ok e1 => match ft e1 with
      | .ok true => match fe e1 with
        | .ok y => (compL e p ft fe ds).bind fun ys => .ok (y :: ys)
        | _ => .bad
      | .ok false => compL e p ft fe ds
      | _ => .bad
    | _ => .bad
def bYes : Env → Res Bool := fun _ => .ok true
def eComp (own : List Nat) (p : Pat) (fi : Env → Res (List D)) (ft : Env → Res Bool) (fe : Env → Res D) : Env → Res D := fun e => (fi e).bind fun ds => if ds.length ≤ sizeLine then (match compL (wipeE e own) p ft fe ds with
  | .ok ys => .ok (.lst ys)
  | _ => .bad) else .bad
abbrev WF : WX := fun _ _ _ _ => False
abbrev DTs (X : Cx) (A : Nat → Prop) (ifs : List Expr) (f : Env → Res Bool) : Prop := PTs X ifs (tT X.K X.mg WF A f)
theorem dts_nil {X : Cx} {A : Nat → Prop} : DTs X A [] bYes := ⟨fun pins s σ H Q I ⟨e, G, E, p⟩ => pts_nil.run pins s σ H Q I (p.here E.sub)⟩
theorem dts_one {X : Cx} {A : Nat → Prop} {c : Expr} {f : Env → Res Bool} (h : DT X WF A c f) : DTs X A [c] f := pts_one h
/-- the reading of a comprehension, from the data's -/
theorem comp_imp {K : PySem.W.Frag} {mg : Str → Option Value} {W : WX} {A : Nat → Prop} {own : List Nat} {p : Pat} {fi : Env → Res (List D)} {ft : Env → Res Bool} {fe : Env → Res D} {g : TG} (hsl : ∀ i ∈ p.slots, i ∈ own)
    (hg : ∀ (R : L2.St → Env → Hp → Hp → Prop), Setable K p.slots R → ∀ (v : V) (σ : L2.St) (H G : Hp) (d : D) (e e' : Env) (Q : L2.St → Hp → Prop), R σ e H G → Sub G H → Rep K G d v → p.bind d e = .ok e' → (∀ σ', R σ' e' H G → Q σ' H) → g v σ H Q)
    (σ : L2.St) (H : Hp) (Q : VK) (q : tF K mg W A (eComp own p fi ft fe) σ H Q) : tLc (tIR K mg W A fi) g (tT K mg WF A ft) (tD K mg WF A fe) own σ H Q := by
  obtain ⟨e, G, E, pp⟩ := q
  refine ⟨e, G, E, pp.split.imp fun ds H1 G1 x1 p1 J w D0 hD => ?_⟩
  have E1 := E.ext x1
  by_cases hz : ds.length ≤ sizeLine
  · rw [if_pos hz] at p1
    cases hc : compL (wipeE e own) p ft fe ds with
    | exc c fs => rw [hc] at p1; exact p1.elim
    | bad => rw [hc] at p1; exact p1.elim
    | ok total =>
      rw [hc] at p1
      have gD : G1 D0 = none := x1.gh.free hD
      refine ⟨fun i m H2 => m = ds.length - i ∧ i ≤ ds.length ∧ ∃ (G2 : Hp) (acc : List D) (accV : List V) (rest : List D), Ext H1 G1 H2 G2 ∧ G2 D0 = none ∧ H2 D0 = some (.lst accV) ∧ RepL K G2 acc accV ∧ acc.length ≤ i ∧ compL (wipeE e own) p ft fe (ds.drop i) = .ok rest ∧ acc ++ rest = total,
        ⟨ds.length, rfl, Nat.zero_le _, G1, [], [], total, ⟨Sub.upd hD, Sub.refl _, x1.gh.trans (Sub.upd hD), fun b z => .inl z⟩, gD, upd_same, rfl, Nat.zero_le _, hc, rfl⟩, ?_⟩
      rintro i m H2 ⟨rfl, hi, G2, acc, accV, rest, x2, g2, h2, r2, ha, hr, ht⟩
      by_cases hlt : i < ds.length
      · refine .inr ⟨w.go H2 i x2.hh hlt, fun H3 => ∃ (G3 : Hp) (acc : List D) (accV : List V) (rest : List D), Ext H1 G1 H3 G3 ∧ G3 D0 = none ∧ H3 D0 = some (.lst accV) ∧ RepL K G3 acc accV ∧ acc.length ≤ i + 1 ∧ compL (wipeE e own) p ft fe (ds.drop (i + 1)) = .ok rest ∧ acc ++ rest = total, fun H3 h => ⟨ds.length - (i + 1), by omega, rfl, hlt, h⟩, fun x H3 y => ?_⟩
        obtain ⟨d, G3, hd, x3, rd⟩ := w.yld H2 G2 i x H3 x2.hh x2.gg x2.gh hlt y
        have x13 := x2.trans x3
        have n3 : ∀ {H' G' : Hp}, Ext H2 G2 H' G' → G' D0 = none := fun {H' G'} x => by
          cases hga : G' D0 with
          | none => rfl
          | some u =>
            rcases x.new D0 (by rw [hga]; simp) with z | z
            · exact absurd g2 z
            · rcases z with z | ⟨_, z⟩ <;> (rw [h2] at z; cases z)
        have e0 : ds.drop i = d :: ds.drop (i + 1) := by
          rw [List.drop_eq_getElem_cons hlt]
          have : ds[i] = d := by
            have := List.getElem?_eq_getElem hlt
            rw [hd] at this
            exact (Option.some.inj this).symm
          rw [this]
        rw [e0] at hr
        dsimp only [compL] at hr
        cases hb : p.bind d (wipeE e own) with
        | exc c fs => rw [hb] at hr; cases hr
        | bad => rw [hb] at hr; cases hr
        | ok e1 =>
          rw [hb] at hr
          dsimp only at hr
          refine hg (fun σ' e' H' G' => EnvG K A σ' e' H' G' ∧ L2.wipe σ' own = L2.wipe σ own) (fun σ' e' H' G' j d' v hj ⟨R1, R2⟩ r => ⟨R1.set j r, by rw [wipe_set (hsl j hj)]; exact R2⟩) x (L2.wipe σ own) H3 G3 d (wipeE e own) e1 _ ⟨(E1.ext x13).wipe own, wipe_idem own⟩ x3.gh rd hb fun σ' ⟨R1, R2⟩ => ⟨R2, e1, G3, R1, ?_⟩
          cases hft : ft e1 with
          | exc c fs => rw [hft] at hr; cases hr
          | bad => rw [hft] at hr; cases hr
          | ok b =>
            rw [hft] at hr
            intro H4 G4 x4
            cases b with
            | false =>
              dsimp only at hr ⊢
              rw [if_neg Bool.false_ne_true]
              exact ⟨G4, acc, accV, rest, x13.trans x4, n3 (x3.trans x4), x4.hh _ _ (x3.hh _ _ h2), (r2.mono x3.gg).mono x4.gg, Nat.le_succ_of_le ha, hr, ht⟩
            | true =>
              dsimp only at hr ⊢
              rw [if_pos rfl]
              refine ⟨e1, G4, R1.ext x4, ?_⟩
              cases hfe : fe e1 with
              | exc c fs => rw [hfe] at hr; cases hr
              | bad => rw [hfe] at hr; cases hr
              | ok y =>
                rw [hfe] at hr
                dsimp only at hr
                intro H5 G5 x5 yv ry
                cases hcr : compL (wipeE e own) p ft fe (ds.drop (i + 1)) with
                | exc c fs => rw [hcr] at hr; cases hr
                | bad => rw [hcr] at hr; cases hr
                | ok rest' =>
                  rw [hcr] at hr
                  cases hr
                  have x25 := (x3.trans x4).trans x5
                  have x15 := x2.trans x25
                  have n5 := n3 x25
                  have h5 := x25.hh _ _ h2
                  refine ⟨accV, h5, ?_, G5, acc ++ [y], accV ++ [yv], rest', ⟨fun b o z => ?_, x15.gg, fun b o z => ?_, x15.new⟩, n5, upd_same, (r2.mono x25.gg).append (.cons ry rfl), ?_, rfl, ?_⟩
                  · rw [r2.length]; omega
                  · have nb : b ≠ D0 := fun q => by rw [q, hD] at z; cases z
                    rw [upd_ne nb]; exact x15.hh _ _ z
                  · have nb : b ≠ D0 := fun q => by rw [q, n5] at z; cases z
                    rw [upd_ne nb]; exact x15.gh _ _ z
                  · rw [List.length_append, List.length_singleton]; omega
                  · rw [← ht, List.append_assoc]; rfl
      · have ei : i = ds.length := by omega
        subst ei
        refine .inl ⟨w.stop H2 x2.hh, ?_⟩
        rw [List.drop_length] at hr
        cases hr
        rw [List.append_nil] at ht
        subst ht
        exact p1 H2 G2 x2 D0 (x1.hh.free hD) g2 ⟨accV, h2, r2⟩
  · rw [if_neg hz] at p1; exact p1.elim
section
variable {X : Cx} {W : WX} {H0 G0 : Hp} {A : Nat → Prop} {al : List Nat} {pos spos : Pos}
theorem df_comp {elt tg iter : Expr} {ifs : List Expr} {scope : Scope} {own : List (Str × Nat)} {p : Pat} {fi : Env → Res (List D)} {ft : Env → Res Bool} {fe : Env → Res D} (hc : X.calm = true) (hN : X.N.Nodup) (hi : DIR X W A tg iter fi) (ok : BlkOk X.N X.env.scope scope own)
    (hg : ∀ (s : Shared) (H : Hp) (C : Addr) (cl : List (Str × Addr)) (fp : List Addr), DG (X.blk s H scope (compEnvC scope cl C X.env) fp) tg p) (ht : ∀ (s : Shared) (H : Hp) (C : Addr) (cl : List (Str × Addr)) (fp : List Addr), DTs (X.blk s H scope (compEnvC scope cl C X.env) fp) A ifs ft)
    (he : ∀ (s : Shared) (H : Hp) (C : Addr) (cl : List (Str × Addr)) (fp : List Addr), DE (X.blk s H scope (compEnvC scope cl C X.env) fp) WF A elt fe) (hsl : ∀ i ∈ p.slots, i ∈ own.map (·.2)) (hs : ∀ x, foldedSetIterable iter X.env x = pure x := by intro _; rfl) :
    DF X W A (.ListComp elt [⟨tg, iter, ifs, 0⟩] scope pos) (eComp (own.map (·.2)) p fi ft fe) := by
  let g0 : TG := fun v σ H Q => ∃ (R : L2.St → Env → Hp → Hp → Prop) (G : Hp) (d : D) (e e' : Env), Setable X.K p.slots R ∧ R σ e H G ∧ Sub G H ∧ Rep X.K G d v ∧ p.bind d e = .ok e' ∧ ∀ σ', R σ' e' H G → Q σ' H
  have hg' : ∀ (s : Shared) (H : Hp) (C : Addr) (cl : List (Str × Addr)) (fp : List Addr), PG (X.blk s H scope (compEnvC scope cl C X.env) fp) tg g0 := fun s H C cl fp => by
    obtain ⟨g, g1, g2⟩ := hg s H C cl fp
    exact ⟨fun pins s σ H v u Q I r ⟨R, G, d, e, e', a1, a2, a3, a4, a5, a6⟩ => g1.run pins s σ H v u Q I r (g2 R a1 v σ H G d e e' Q a2 a3 a4 a5 a6)⟩
  exact (pe_lc hc hN hi ok hg' ht he hs).imp (comp_imp (mg := X.mg) hsl fun R hR v σ H G d e e' Q a1 a2 a3 a4 a5 => ⟨R, G, d, e, e', hR, a1, a2, a3, a4, a5⟩)
/-- y = [..] -/
theorem ds_comp {i : Nat} {y : Str} {py : Pos} {elt tg iter : Expr} {ifs : List Expr} {scope : Scope} {own : List (Str × Nat)} {p : Pat} {fi : Env → Res (List D)} {ft : Env → Res Bool} {fe : Env → Res D} (fresh : Bool) (hc : X.calm = true) (hN : X.N.Nodup) (hy : X.N[i]? = some y) (hyl : X.env.scope.names.lookup y = some .local)
    (hsw : swapsWith (.ListComp elt [⟨tg, iter, ifs, 0⟩] scope pos) (some (.Name y py)) spos.line X.env = pure true) (hi : DIR X W (fun i => i ∈ al) tg iter fi) (ok : BlkOk X.N X.env.scope scope own)
    (hg : ∀ (s : Shared) (H : Hp) (C : Addr) (cl : List (Str × Addr)) (fp : List Addr), DG (X.blk s H scope (compEnvC scope cl C X.env) fp) tg p) (ht : ∀ (s : Shared) (H : Hp) (C : Addr) (cl : List (Str × Addr)) (fp : List Addr), DTs (X.blk s H scope (compEnvC scope cl C X.env) fp) (fun i => i ∈ al) ifs ft)
    (he : ∀ (s : Shared) (H : Hp) (C : Addr) (cl : List (Str × Addr)) (fp : List Addr), DE (X.blk s H scope (compEnvC scope cl C X.env) fp) WF (fun i => i ∈ al) elt fe) (hsl : ∀ i ∈ p.slots, i ∈ own.map (·.2)) (hs : ∀ x, foldedSetIterable iter X.env x = pure x := by intro _; rfl) :
    DS X W H0 G0 (.Assign [.Name y py] (.ListComp elt [⟨tg, iter, ifs, 0⟩] scope pos) spos) (if fresh = true then sSetF al i (eComp (own.map (·.2)) p fi ft fe) else sSet al i (eComp (own.map (·.2)) p fi ft fe)) := by
  let g0 : TG := fun v σ H Q => ∃ (R : L2.St → Env → Hp → Hp → Prop) (G : Hp) (d : D) (e e' : Env), Setable X.K p.slots R ∧ R σ e H G ∧ Sub G H ∧ Rep X.K G d v ∧ p.bind d e = .ok e' ∧ ∀ σ', R σ' e' H G → Q σ' H
  have hg' : ∀ (s : Shared) (H : Hp) (C : Addr) (cl : List (Str × Addr)) (fp : List Addr), PG (X.blk s H scope (compEnvC scope cl C X.env) fp) tg g0 := fun s H C cl fp => by
    obtain ⟨g, g1, g2⟩ := hg s H C cl fp
    exact ⟨fun pins s σ H v u Q I r ⟨R, G, d, e, e', a1, a2, a3, a4, a5, a6⟩ => g1.run pins s σ H v u Q I r (g2 R a1 v σ H G d e e' Q a2 a3 a4 a5 a6)⟩
  have h1 := ps_setLc (tt := tT X.K X.mg WF (fun i => i ∈ al) ft) (te := tD X.K X.mg WF (fun i => i ∈ al) fe) hc hN hy hyl hsw hi ok hg' ht he hs
  have h2 := fun σ H Q => comp_imp (K := X.K) (mg := X.mg) (W := W) (A := fun i => i ∈ al) (own := own.map (·.2)) (p := p) (fi := fi) (ft := ft) (fe := fe) (g := g0) hsl (fun R hR v σ H G d e e' Q a1 a2 a3 a4 a5 => ⟨R, G, d, e, e', hR, a1, a2, a3, a4, a5⟩) σ H Q
  generalize eComp (own.map (·.2)) p fi ft fe = f at h2 ⊢
  have hF : DS X W H0 G0 (.Assign [.Name y py] (.ListComp elt [⟨tg, iter, ifs, 0⟩] scope pos) spos) (sSetF al i f) := h1.imp fun Z σ H ⟨e, G, S, p⟩ => h2 σ H _ (by
    obtain ⟨GA, E, nxt⟩ := S.exp al
    refine ⟨e, GA, E, ?_⟩
    unfold sSetF sE at p
    cases hr : f e with
    | ok d =>
      rw [hr] at p
      intro H' G' x a ha ga rc
      have S' := nxt H' G' x
      refine p _ H' G' (S'.setF i (Hb := H) S.ext.hh (fun j d' b h1 h2 => ?_) ha ga rc)
      obtain ⟨o', w1, w2⟩ := fz_get al e j d' true h1
      have e1 : o' = true := by rcases w2 with ⟨z, _⟩ | ⟨z, _⟩; exact z.symm; cases z
      subst e1
      obtain ⟨a', q1, _, _, q4⟩ := S.ow j d' w1
      rw [h2] at q1; cases q1
      exact q4.is
    | exc c fs =>
      rw [hr] at p
      exact fun cls o H' s ix => p cls o σ H GA H' (nxt H GA (Ext.refl E.sub)) s ix
    | bad => rw [hr] at p; exact p.elim)
  cases fresh with
  | true => exact hF
  | false =>
    refine h1.imp fun Z σ H hq => h2 σ H _ ?_
    obtain ⟨e, G, E, p⟩ := sE_step (f := f) (k := fun d e => .nx (e.set i (some (d, false)))) hq
    refine ⟨e, G, E, ?_⟩
    have p2 := p.imp (R' := fun d H' G' => ∀ v, Rep X.K G' d v → gName i v σ H' Z.nx) fun d H' G' _ ⟨S, q⟩ v r => q _ H' G' (S.set i r)
    cases hr : f e with
    | exc c fs => rw [hr] at p2; exact p2
    | bad => rw [hr] at p2; exact p2
    | ok d =>
      rw [hr] at p2
      intro H' G' x a ha ga rc
      have sg : Sub G' (fun b => if b = a then H' b else G' b) := fun b o q => by
        show (if b = a then H' b else G' b) = some o
        by_cases hb : b = a
        · subst hb; rw [ga] at q; cases q
        · rw [if_neg hb]; exact q
      refine p2 H' (fun b => if b = a then H' b else G' b) ⟨x.hh, x.gg.trans sg, fun b o q => ?_, fun b q => ?_⟩ (.ref a) (rc.put sg (if_pos rfl))
      · have q' : (if b = a then H' b else G' b) = some o := q
        by_cases hb : b = a
        · rw [if_pos hb] at q'; exact q'
        · rw [if_neg hb] at q'; exact x.gh _ _ q'
      · have q' : (if b = a then H' b else G' b) ≠ none := q
        by_cases hb : b = a
        · subst hb; exact .inr (.inl ha)
        · rw [if_neg hb] at q'; exact x.new b q'
end
end DL

namespace DL
open PySem PySem.Spec PyProof.Rows L2
open PySem.Builtin.Int (intBits)

/-! ### a name that never holds a list to be changed -/
def eVarS (i : Nat) : Env → Res D := fun e => match e[i]? with
  | some (some (d, false)) => .ok d
  | _ => .bad
section
variable {X : Cx} {W : WX} {A : Nat → Prop} {a b : Expr} {rest : List Expr} {pos p p1 p2 : Pos} {x T : Str} {H0 G0 : Hp}
theorem de_vs {i : Nat} {x : Str} {pos : Pos} (hN : X.N[i]? = some x) (hv : Vis X.env.scope x) (hd : (x == ("__debug__" : Str)) = false := by decide) (hcd : (x == ("__classdict__" : Str)) = false := by decide) : DE X W A (.Name x pos) (eVarS i) :=
  (pe_var hN hv hd hcd).imp fun σ H Q ⟨e, G, E, p⟩ => by
    unfold eVarS at p
    cases h : e[i]? with
    | none => rw [h] at p; exact p.elim
    | some s => cases s with
      | none => rw [h] at p; exact p.elim
      | some z =>
        obtain ⟨d, o⟩ := z
        rw [h] at p
        cases o with
        | true => exact p.elim
        | false =>
          obtain ⟨v, h1, h2, h3⟩ := E.val i d false h
          exact ⟨v, h1, p.here E.sub v (h2 (.inr rfl))⟩

/-! ### isinstance -/
/-- the name of the data's own type -/
def D.tyN : D → Option String
  | .non => some "NoneType"
  | .bl _ => some "bool"
  | .int _ => some "int"
  | .str _ => some "str"
  | .tup _ => some "tuple"
  | .lst _ => some "list"
  | _ => none
def isInt : D → Res D
  | .int _ => .ok (.bl true)
  | .bl _ => .ok (.bl true)
  | d => if d.tyN = none then .bad else .ok (.bl false)
def isBool : D → Res D
  | .bl _ => .ok (.bl true)
  | d => if d.tyN = none then .bad else .ok (.bl false)
def isTup : D → Res D
  | .tup _ => .ok (.bl true)
  | d => if d.tyN = none then .bad else .ok (.bl false)
def isStr : D → Res D
  | .str _ => .ok (.bl true)
  | d => if d.tyN = none then .bad else .ok (.bl false)
def isList : D → Res D
  | .lst _ => .ok (.bl true)
  | d => if d.tyN = none then .bad else .ok (.bl false)
/-- g says which data is of the type T -/
def IsOf (T : String) (g : D → Res D) : Prop := ∀ d, (∀ t, d.tyN = some t → ∃ b, kitB t T = some b ∧ g d = .ok (.bl b)) ∧ (d.tyN = none → g d = .bad)
theorem is_int : IsOf "int" isInt := fun d => ⟨fun t h => by cases d <;> cases h <;> exact ⟨_, by decide +kernel, rfl⟩, fun h => by cases d <;> first | rfl | cases h⟩
theorem is_bool : IsOf "bool" isBool := fun d => ⟨fun t h => by cases d <;> cases h <;> exact ⟨_, by decide +kernel, rfl⟩, fun h => by cases d <;> first | rfl | cases h⟩
theorem is_tup : IsOf "tuple" isTup := fun d => ⟨fun t h => by cases d <;> cases h <;> exact ⟨_, by decide +kernel, rfl⟩, fun h => by cases d <;> first | rfl | cases h⟩
theorem is_str : IsOf "str" isStr := fun d => ⟨fun t h => by cases d <;> cases h <;> exact ⟨_, by decide +kernel, rfl⟩, fun h => by cases d <;> first | rfl | cases h⟩
theorem is_list : IsOf "list" isList := fun d => ⟨fun t h => by cases d <;> cases h <;> exact ⟨_, by decide +kernel, rfl⟩, fun h => by cases d <;> first | rfl | cases h⟩
theorem tyX {K : PySem.W.Frag} {H G : Hp} {d : D} {v : V} {t : String} (g : Sub G H) (r : RepC K H G d v) (h : d.tyN = some t) : TyX K H v (.type t) := by
  cases d with
  | non => cases h; cases (show v = .non from r); exact .base .non
  | bl b => cases h; cases (show v = .bl b from r); exact .base (.bl b)
  | int i => cases h; cases (show v = .int i from r); exact .base (.int i)
  | str x => cases h; cases (show v = .str x from r); exact .base (.str x)
  | tup ds =>
    cases h
    obtain ⟨a, vs, e, s, _⟩ := (show Rep K G (.tup ds) v from r)
    subst e
    rcases g.pt (K := K) s with (q | ⟨o, q⟩) | ⟨o, its, n, q1, q2, _⟩
    · exact .base (.tup q)
    · exact .fTuple q
    · exact .kTuple q1 q2
  | lst ds =>
    cases h
    obtain ⟨a, vs, e, s, _⟩ := r
    subst e
    rcases s with (q | ⟨o, q⟩) | ⟨o, its, n, q1, q2, _⟩
    · exact .base (.lst q)
    · exact .base (.frz q)
    · exact .kList q1 q2
  | _ => cases h
theorem de_isi {x T : Str} {n : String} {g : D → Res D} {f : Env → Res D} (ho : IsOf n g) (hg : Gl X x) (hm : X.mg x = none) (hv : bootBuiltins x = some (.builtin "isinstance")) (ha : DR X W A a f) (hgT : Gl X T) (hmT : X.mg T = none) (hvT : bootBuiltins T = some (.type n))
    (hnx : x ≠ "__name__" := by decide) (hnT : T ≠ "__name__" := by decide) (hdT : (T == ("__debug__" : Str)) = false := by decide) (hdb : (x == ("__debug__" : Str)) = false := by decide)
    (he : starEach (a :: [.Name T p2]) X.env = (false, eval a X.env) :: starEach [.Name T p2] X.env := by rfl) (he2 : starEach (.Name T p2 :: []) X.env = (false, eval (.Name T p2) X.env) :: starEach [] X.env := by rfl) (hpl : (backTo pos (starEach [.Name T p2] X.env)).any (·.1) = false := by rfl) :
    DE X W A (.Call (.Name x p) [a, .Name T p2] [] pos) (e1 g f) := by
  refine (pe_callB call_isi hg hm hv (pa_cons ha (pa_cons (pe_bltn hgT hmT hvT (v := .ty n) rfl hnT hdT) pa_nil he2) he) hnx hdb he hpl).imp fun σ H Q ⟨e, G, E, p⟩ => ?_
  refine ⟨e, G, E, p.split.imp fun d H1 G1 x1 p1 v rv => ?_⟩
  cases ht : d.tyN with
  | none => rw [(ho d).2 ht] at p1; exact p1.elim
  | some t =>
    obtain ⟨b, k1, k2⟩ := (ho d).1 t ht
    rw [k2] at p1
    exact ⟨v, .ty n, .type t, .type n, b, rfl, .ty n, tyX x1.gh rv ht, kit_ty k1, p1.val x1.gh rfl⟩

/-! ### raise, try -/
structure ExcOk (K : PySem.W.Frag) (mg : Str → Option Value) (c : String) : Prop where
  ok : ∃ C B newId initId bmB, PySem.ExcBaseFacts B newId initId bmB ∧ PySem.W.excIn K C bmB newId = true ∧ mg (Str.ofString c) = some (.ref C) ∧ PySem.W.keepIn K (.ref C) = true ∧
    PySem.W.subIn K (.ref C) (.type "BaseException") = some true ∧ PySem.W.typeIn K (.ref C) = some (.type "type")
def sRaise (c : String) : Env → Out := fun e => .ex c [] e
theorem ds_raise {c : String} {m : Str} {j : Nat} (hx : ExcOk X.K X.mg c) (hc : X.calm = true) (tk : Takes X W) (hg : Gl X (Str.ofString c)) (hdb : (Str.ofString c == ("__debug__" : Str)) = false := by decide) :
    DS X W H0 G0 (.Raise (some (.Call (.Name (Str.ofString c) p) [.Constant (.str m) j p2] [] p1)) none pos) (sRaise c) := by
  obtain ⟨C, B, newId, initId, bmB, F, q, gC, kC, b1, b2⟩ := hx.ok
  exact (ps_raise hc tk (pmk_own F q gC kC (raises_own b1 b2) hg hdb)).imp fun Z σ H ⟨e, G, S, p⟩ => p (.ref C) none σ H G H S (Sub.refl H) ⟨gC, rfl⟩
/-- what "except X" does at each class -/
def Clause (K : PySem.W.Frag) (mg : Str → Option Value) (c : Value) (h : String → Option Bool) : Prop := ∀ k b cls, h k = some b → mg (Str.ofString k) = some cls → PySem.W.exmOne K cls c = some b
/-- nothing is raised out of here -/
def noEx (r : Out) : Out := match r with
  | .ex _ _ _ => .bad
  | r => r
def sTry (h : String → Option Bool) (fb fs : Env → Out) : Env → Out := fun e => match fb e with
  | .ex c fs' e' => match h c with
    | some true => noEx (fs e')
    | some false => .ex c fs' e'
    | none => .bad
  | r => r
theorem SPost.noEx {K : PySem.W.Frag} {mg : Str → Option Value} {W W' : WX} {r : Out} {Z : Ends} (p : SPost K mg W H0 G0 (noEx r) Z) : SPost K mg W' H0 G0 r Z := by
  cases r with
  | ex c fs e => exact p.elim
  | bad => exact p.elim
  | _ => exact p
theorem ds_try {x : Str} {c : Value} {body suite : List Stmt} {b₀ : Stmt} {np pos' : Pos} {h : String → Option Bool} {fb fs : Env → Out} (hs : X.stack = X.env :: X.outer) (hf : X.env.frame = some X.env.locals) (hc : Names X x c) (tk : Takes X W)
    (hh : Clause X.K X.mg c h)
    (hb : ∀ (W' : WX) (pn : List (Addr × Obj)) (xe : Value → Shared → Prop), Takes (X.tr pn xe) W' → PassesOwn (model X.prog X.w) X.A X.env xe → DSs (X.tr pn xe) W' H0 G0 body fb)
    (hsu : ∀ (a : Addr) (pn : List (Addr × Obj)), DSs (X.suite a pn) WF H0 G0 (b₀ :: suite) fs) :
    DS X W H0 G0 (.Try body [.ExceptHandler (some (.Name x np)) none (b₀ :: suite) pos'] [] [] pos) (sTry h fb fs) := by
  refine (ps_try_only (tb := fun W' => tS X.K X.mg W' H0 G0 fb) (ts := fun _ _ _ => tS X.K X.mg WF H0 G0 fs) hs hf hc tk hb (fun a oe cls d pn _ _ => hsu a ((a, oe) :: pn))).imp fun Z σ H ⟨e, G, S, p⟩ => ⟨e, G, S, ?_⟩
  unfold sTry at p
  cases hr : fb e with
  | ex k fs' e' =>
    rw [hr] at p
    dsimp only at p
    refine fun cls o σ' H' G' H2 S' s2 ix => ?_
    cases hk : h k with
    | none => rw [hk] at p; exact p.elim
    | some b =>
      refine ⟨b, hh k b cls hk ix.1, fun eb a _ => ?_, fun eb => ?_⟩
      · subst eb
        rw [hk] at p
        have S2 : StOk X.K H0 G0 σ' e' H2 G' := ⟨⟨S'.ext.hh.trans s2, S'.ext.gg, S'.ext.gh.trans s2, S'.ext.new⟩, S'.len, S'.sh, fun i d h => let ⟨a, q1, q2, q3, q4⟩ := S'.ow i d h; ⟨a, q1, q2, q3, q4.mono s2 (Sub.refl _)⟩, S'.ne⟩
        exact ⟨e', G', S2, SPost.noEx p⟩
      · subst eb
        rw [hk] at p
        exact p cls o σ' H' G' H2 S' s2 ix
  | nx e' => rw [hr] at p; exact p
  | rt d => rw [hr] at p; exact p
  | ro d => rw [hr] at p; exact p
  | bk e' => rw [hr] at p; exact p
  | ct e' => rw [hr] at p; exact p
  | bad => rw [hr] at p; exact p.elim
end
end DL

namespace DL
open PySem PySem.Spec PyProof.Rows L2
open PySem.Builtin.Int (intBits)

theorem _root_.L2.Room.hu {k : Nat} {A : Around} (h : Room k A) : A.units + 64 < cLine := by have := h.un; omega
theorem CallOk.up {P : Program} {w : World} {K : PySem.W.Frag} {mg : Str → Option Value} {base : Heap} {j k : Nat} {x : Str} {ps : List Str} {F : List D → Res D} (h : CallOk P w K mg base j x ps F) (hjk : j ≤ k) : CallOk P w K mg base k x ps F := by
  obtain ⟨f, fd, a, b, c, d⟩ := h.ok
  exact ⟨f, fd, a, b, c, d.mono hjk⟩
theorem de_globI {X : Cx} {W : WX} {A : Nat → Prop} {x : Str} {i : Int} {pos : Pos} (hg : Gl X x) (hm : ∃ t, X.mg x = some (.int i t)) (hd : (x == ("__debug__" : Str)) = false := by decide) : DE X W A (.Name x pos) (eC (.int i)) := by
  obtain ⟨t, h⟩ := hm
  exact de_glob (v := .int i) hg h ⟨t, rfl⟩ (fun _ => rfl) hd
theorem endW {l : PySem.W.OpenLaw} {k : Nat} {q : Program} {loose : List Str} {XP : (Str → Option Value) → Heap → Prop} {YP : World → Heap → Prop} {d : DefRec} {K : Params → PySem.W.Frag} {x : Str} {F : List D → Res D}
    (hn : l.most = some 63) (hdf : d.params.defaults = []) (hk : k < 200) (hY : ∀ (w : World) (h : Heap), YP w h → (K w.params).In h)
    (FF : ∀ (w : World) (mg : Str → Option Value) (fa : Addr) (h : Heap), (K w.params).In h → h.Ns mainGlobals mg → mg d.name = some (.ref fa) →
      ∃ fd : FuncData, (∀ (s : Shared) (u : Value), BindsTo s fd ⟨[u], []⟩ [(x, u)]) ∧ ∀ base : Heap, (K w.params).In base → base.Ns mainGlobals mg → FnOk l.prog w (K w.params) mg base (L2.CX l.prog w) k fa fd [x] (spD (K w.params) mg 1 F))
    (law : ∀ ns : List Int, ns.length ≤ 63 → (∀ z ∈ ns, intBits z ≤ 1048576) → F [.lst (ns.map D.int)] = .ok (.bl true)) :
    PySem.W.WalkO q loose XP YP l.row.toRowW d [] (fun f vs => PySem.call f vs) := by
  let sp : World → Sp := fun w => fun vs H Q E => vs.length = 1 ∧ ∃ (a : Addr) (ns : List Int), vs = [.ref a] ∧ ns.length ≤ 63 ∧ (∀ z ∈ ns, intBits z ≤ 1048576) ∧ SqL (K w.params) H a (ns.map V.int) ∧ ∀ H', Q (.bl true) H'
  refine L2.walk_ofB (l := l) (n := 63) (k := k) (x := x) (K := K) (CX := fun w => L2.CX l.prog w) (sp := sp) hn (by rw [PySem.sizeLine_eq]; decide) hdf (Room.mono (k := 200) ⟨rfl, by decide, by decide⟩ (by omega)) hY (fun w mg fa h a b c => ?_) (fun w H a ns hl hb _ hS => ⟨rfl, a, ns, rfl, hl, hb, hS, fun _ => rfl⟩) ?_
  · obtain ⟨fd, b1, b2⟩ := FF w mg fa h a b c
    refine ⟨fd, b1, fun base k1 k2 => ?_⟩
    have f := b2 base k1 k2
    refine ⟨fun vs H Q E h => h.1, fun A outer s H args us vs Q E r e bt vv hsp => f.run A outer s H args us vs Q E r e bt vv ?_⟩
    obtain ⟨_, a, ns, rfl, hl, hb, hS, hq⟩ := hsp
    refine ⟨rfl, [.lst (ns.map D.int)], H, Sub.refl H, ⟨_, _, rfl, ⟨a, _, rfl, hS, RepL.of_ints ns⟩, rfl⟩, ?_⟩
    rw [law ns hl hb]
    exact fun H' G' _ v hv => by cases (show v = .bl true from hv); exact hq H'
  · rintro w H s e s' ⟨_, _, _, _, _, _, _, _, _, _, _, _, z⟩
    exact z
end DL

namespace DL
open PySem PySem.Spec PyProof.Rows L2
open PySem.Builtin.Int (intBits)
/-! ### which classes an "except" names -/
theorem Clause.nil {K : PySem.W.Frag} {mg : Str → Option Value} {c : Value} : Clause K mg c (fun _ => none) := fun k b cls h _ => by cases h
theorem Clause.cons {K : PySem.W.Frag} {mg : Str → Option Value} {c : Value} {n : String} {C : Addr} {b : Bool} {f : String → Option Bool} (hm : mg (Str.ofString n) = some (.ref C)) (he : PySem.W.exmOne K (.ref C) c = some b) (t : Clause K mg c f) : Clause K mg c (fun s => if s = n then some b else f s) := fun k b' cls h hc => by
  dsimp only at h
  by_cases hk : k = n
  · subst hk
    rw [if_pos rfl] at h
    cases h
    rw [hm] at hc
    cases hc
    exact he
  · rw [if_neg hk] at h
    exact t k b' cls h hc
theorem exm_two {K : PySem.W.Frag} {A S : Addr} {b : Bool} (h1 : PySem.W.subIn K (.ref S) (.type "BaseException") = some true) (h2 : PySem.W.isClsIn K S = true) (h3 : PySem.W.typeIn K (.ref S) = some (.type "type")) (h4 : PySem.W.subIn K (.ref A) (.ref S) = some b) : PySem.W.exmOne K (.ref A) (.ref S) = some b := by
  have e1 : (PySem.W.subIn K (.ref S) (.type "BaseException") == some true) = true := by rw [h1]; rfl
  have e2 : ((PySem.W.clsIn K S).isSome && PySem.W.typeIn K (.ref S) == some (.type "type")) = true := by
    have h2' : (PySem.W.clsIn K S).isSome = true := h2
    rw [h2', h3]; rfl
  show (if (PySem.W.subIn K (.ref S) (.type "BaseException") == some true) = true then (if ((PySem.W.clsIn K S).isSome && PySem.W.typeIn K (.ref S) == some (.type "type")) = true then PySem.W.subIn K (.ref A) (.ref S) else none) else none) = some b
  rw [if_pos e1, if_pos e2]
  exact h4
/-! ### a module's constant -/
structure ConOk (K : PySem.W.Frag) (mg : Str → Option Value) (x : String) (d : D) : Prop where
  ok : ∃ u v, mg (Str.ofString x) = some u ∧ RelV v u ∧ ∀ G, Rep K G d v
theorem de_con {X : Cx} {W : WX} {A : Nat → Prop} {x : String} {d : D} {pos : Pos} (h : ConOk X.K X.mg x d) (hg : Gl X (Str.ofString x)) (hd : (Str.ofString x == ("__debug__" : Str)) = false := by decide) : DE X W A (.Name (Str.ofString x) pos) (eC d) := by
  obtain ⟨u, v, h1, h2, h3⟩ := h.ok
  exact de_glob hg h1 h2 h3 hd
/-- a value of the written part is the data d -/
structure Con (K : PySem.W.Frag) (d : D) (u : Value) : Prop where
  ok : ∃ v, RelV v u ∧ ∀ G, Rep K G d v
theorem Con.int {K : PySem.W.Frag} {i : Int} {t : Tok} : Con K (.int i) (.int i t) := ⟨.int i, ⟨t, rfl⟩, fun _ => rfl⟩
theorem Con.str {K : PySem.W.Frag} {x : Str} {t : Tok} : Con K (.str x) (.str x t) := ⟨.str x, ⟨t, rfl⟩, fun _ => rfl⟩
def Cons (K : PySem.W.Frag) : List D → List Value → Prop
  | [], us => us = []
  | d :: ds, us => ∃ u r, us = u :: r ∧ Con K d u ∧ Cons K ds r
theorem Cons.rep {K : PySem.W.Frag} : ∀ {ds : List D} {us : List Value}, Cons K ds us → ∃ vs, Vals vs us ∧ ∀ G, RepL K G ds vs
  | [], _, rfl => ⟨[], .nil, fun _ => rfl⟩
  | d :: ds, _, ⟨u, r, rfl, h, t⟩ => by
    obtain ⟨v, h1, h2⟩ := h.ok
    obtain ⟨vs, h3, h4⟩ := Cons.rep t
    exact ⟨v :: vs, .cons h1 h3, fun G => ⟨v, vs, rfl, h2 G, h4 G⟩⟩
theorem Con.tup {K : PySem.W.Frag} {a : Addr} {dd : Option Addr} {us : List Value} {n : Nat} {sl : Array (Option Value)} {ds : List D} (h : K.lookup a = some ⟨.type "tuple", dd, .seq us.toArray n, sl⟩) (c : Cons K ds us) (hn : us.length ≤ 1000) : Con K (.con ds) (.ref a) := by
  obtain ⟨vs, h3, h4⟩ := c.rep
  refine ⟨.ref a, rfl, fun G => ⟨a, vs, rfl, .inr ⟨_, _, n, h, rfl, rfl, ?_, by simpa using h3⟩, h4 G⟩⟩
  rw [PySem.sizeLine_eq]
  simp
  omega
theorem Con.at {K : PySem.W.Frag} {mg : Str → Option Value} {x : String} {d : D} {u : Value} (h : Con K d u) (hm : mg (Str.ofString x) = some u) : ConOk K mg x d := by
  obtain ⟨v, h1, h2⟩ := h.ok
  exact ⟨u, v, hm, h1, h2⟩
end DL

namespace DL
open PySem PySem.Spec PyProof.Rows L2
open PySem.Builtin.Int (intBits)
/-! ### range of three -/
def prog3 (i c : Int) (n : Nat) : List D := (List.range n).map fun k => D.int (i + (k : Nat) * c)
open Classical in
noncomputable def rg3 (i j c : Int) : Res (List D) := if h : ∃ n, RgC i j c n then .ok (prog3 i c (Classical.choose h)) else .bad
theorem rgc_one {i j c : Int} {n m : Nat} (h : RgC i j c n) (k : RgC i j c m) : n = m := by
  have e := h.2.2.2.symm.trans k.2.2.2
  exact Int.ofNat.inj e
theorem rg3_of {i j c : Int} {n : Nat} (h : RgC i j c n) : rg3 i j c = .ok (prog3 i c n) := by
  have hx : ∃ n, RgC i j c n := ⟨n, h⟩
  unfold rg3
  rw [dif_pos hx, rgc_one (Classical.choose_spec hx) h]
theorem rg3_ok {i j c : Int} {ds : List D} (h : rg3 i j c = .ok ds) : ∃ n, RgC i j c n ∧ ds = prog3 i c n := by
  unfold rg3 at h
  by_cases hx : ∃ n, RgC i j c n
  · rw [dif_pos hx] at h
    injection h with h
    exact ⟨_, Classical.choose_spec hx, h.symm⟩
  · rw [dif_neg hx] at h; cases h
theorem rg3_not {i j c : Int} : (∃ ds, rg3 i j c = .ok ds) ∨ rg3 i j c = .bad := by
  unfold rg3
  by_cases hx : ∃ n, RgC i j c n
  · rw [dif_pos hx]; exact .inl ⟨_, rfl⟩
  · rw [dif_neg hx]; exact .inr rfl
theorem walk_prog {K : PySem.W.Frag} {B G : Hp} (i c : Int) (n : Nat) : WalkOf K (Itc i c n) (prog3 i c n) B G where
  go := fun H k h hk => by
    show k < n
    simpa [prog3] using hk
  stop := fun H h => by
    show n ≤ _
    simp [prog3]
  yld := fun H G2 k x H' h g g2 hk y => by
    obtain ⟨e, y⟩ := y
    subst e
    have hk' : k < n := by simpa [prog3] using hk
    exact ⟨.int (i + k * c), G2, by simp [prog3, hk'], Ext.refl g2, y⟩
noncomputable def r3D : D → D → D → Res (List D) := fun x y z => match x, y, z with
  | .int i, .int j, .int c => rg3 i j c
  | _, _, _ => .bad
noncomputable def iRange3 (f g h : DL.Env → Res D) : DL.Env → Res (List D) := fun e => (f e).bind fun x => (g e).bind fun y => (h e).bind fun z => r3D x y z
section
variable {X : Cx} {W : WX} {A : Nat → Prop} {a b c : Expr} {pos : Pos}
theorem di_range3 {tg : Expr} {p : Pos} {f g h : DL.Env → Res D} (hg : Gl X "range") (hm : X.mg "range" = none) (ha : DE X W A a f) (hb : DE X W A b g) (hc : DE X W A c h)
    (he : starEach [a, b, c] X.env = (false, eval a X.env) :: starEach [b, c] X.env := by rfl) (he2 : starEach [b, c] X.env = (false, eval b X.env) :: starEach [c] X.env := by rfl) (he3 : starEach [c] X.env = (false, eval c X.env) :: starEach [] X.env := by rfl) (hpl : (backTo pos (starEach [b, c] X.env)).any (·.1) = false := by rfl) :
    DI X W A tg (.Call (.Name "range" p) [a, b, c] [] pos) (iRange3 f g h) :=
  (pi_range3 hg hm (pa_cons ha (pa_cons hb (pa_cons hc pa_nil he3) he2) he) he hpl).imp fun σ H Q ⟨e, G, E, p⟩ => ⟨e, G, E, p.split.imp fun d H1 G1 x1 p1 v rv => ⟨e, G1, E.ext x1, p1.split.imp fun d2 H2 G2 x2 p2 v2 rv2 => ⟨e, G2, (E.ext x1).ext x2, p2.split.imp fun d3 H3 G3 x3 p3 v3 rv3 => by
    have p4 : PostG X.K X.mg _ H3 G3 (r3D d d2 d3) _ := p3
    unfold r3D at p4
    cases d with
    | int i =>
      cases d2 with
      | int j =>
        cases d3 with
        | int k =>
          cases (show v = .int i from rv); cases (show v2 = .int j from rv2); cases (show v3 = .int k from rv3)
          dsimp only at p4
          rcases @rg3_not i j k with ⟨ds, h⟩ | h
          · obtain ⟨n, hn, hd⟩ := rg3_ok h
            subst hd
            rw [h] at p4
            exact ⟨i, j, k, n, rfl, hn, p4.here x3.gh _ (walk_prog i k n)⟩
          · rw [h] at p4; exact p4.elim
        | _ => exact (show False from p4).elim
      | _ => exact (show False from p4).elim
    | _ => exact (show False from p4).elim⟩⟩⟩
/-- x, y = a, b with no tuple made -/
def sPar (al : List Nat) (i j : Nat) (fs : DL.Env → Res (List D)) : DL.Env → Out := sE al fs fun ds e => match ds with
  | [x, y] => .nx ((e.set i (some (x, false))).set j (some (y, false)))
  | _ => .bad
theorem ds_par {W : WX} {H0 G0 : Hp} {al : List Nat} {x y : Str} {i j : Nat} {px py pt pt2 : Pos} {kt k2 : Nat} {fs : DL.Env → Res (List D)} (hc : X.calm = true) (hN : X.N.Nodup) (hi : X.N[i]? = some x) (hj : X.N[j]? = some y) (hij : i ≠ j) (hx : X.env.scope.names.lookup x = some .local) (hy : X.env.scope.names.lookup y = some .local) (ha : DA X W (fun i => i ∈ al) [a, b] fs)
    (hw : swappedStores [.Tuple [.Name x px, .Name y py] kt pt] (.Tuple [a, b] k2 pt2) X.env = pure (some [x, y])) : DS X W H0 G0 (.Assign [.Tuple [.Name x px, .Name y py] kt pt] (.Tuple [a, b] k2 pt2) pos) (sPar al i j fs) := by
  refine (ps_par hc hN hi hj hij hx hy ha hw).imp fun Z σ H hq => ?_
  obtain ⟨e, G, E, p⟩ := sE_step hq
  refine ⟨e, G, E, p.imp fun ds H' G' xx ⟨S, q⟩ vs r => ?_⟩
  match ds, q, r with
  | [d1, d2], q, r =>
    obtain ⟨v1, r1, e1, q1, v2, r2, e2, q2, q3⟩ := r
    subst e1 e2
    cases (show r2 = [] from q3)
    exact ⟨v1, v2, rfl, q _ H' G' ((S.set i q1).set j q2)⟩
  | [], q, _ => exact (show False from q).elim
  | [_], q, _ => exact (show False from q).elim
  | _ :: _ :: _ :: _, q, _ => exact (show False from q).elim
/-! ### zip of two -/
def zipD : List D → List D → List D := fun xs ys => (xs.zip ys).map fun p => .tup [p.1, p.2]
end
end DL

namespace DL
open PySem PySem.Spec PyProof.Rows L2
open PySem.Builtin.Int (intBits)
/-! ### str of truth values and numbers -/
theorem call_str_bool {X : Cx} : CallR X (.type "str") fun xs H Q => ∃ b, xs = [V.bl b] ∧ Q (.str (if b = true then "True" else "False")) H := by
  rintro pins s σ H xs us Q I r ⟨b, rfl, q⟩
  obtain ⟨u, rfl, hu⟩ := L2.vals1 r
  cases (show u = Value.bool b from hu)
  exact PySem.P.str_of_bool ⟨V.str (if b = true then "True" else "False"), H, I.tok (s.toks + 1), ⟨s.toks, rfl⟩, q⟩
def dStr : D → Res D
  | .bl b => .ok (.str (if b = true then "True" else "False"))
  | _ => .bad
theorem c1_str {X : Cx} {W : WX} : Call1 X W (.type "str") dStr := by
  refine ⟨_, call_str_bool, fun σ H G x dx Q sg rx p => ?_⟩
  cases dx with
  | bl b => cases (show x = .bl b from rx); exact ⟨b, rfl, p.val sg rfl⟩
  | _ => exact (show False from p).elim
/-! ### except X as e -/
theorem StOk.clear {K : PySem.W.Frag} {H0 G0 H G : Hp} {σ : L2.St} {e : DL.Env} (S : StOk K H0 G0 σ e H G) (i : Nat) : StOk K H0 G0 (σ.set i none) (e.set i none) H G := by
  have get : ∀ (j : Nat) (z : D × Bool), (e.set i none)[j]? = some (some z) → i ≠ j ∧ e[j]? = some (some z) := fun j z h => by
    by_cases hj : i = j
    · subst hj
      rw [List.getElem?_set] at h
      split at h
      · split at h <;> cases h
      · rename_i k; exact absurd rfl k
    · rw [List.getElem?_set_ne hj] at h
      exact ⟨hj, h⟩
  refine ⟨S.ext, by rw [List.length_set, List.length_set]; exact S.len, fun j d h => ?_, fun j d h => ?_, fun j k d d' a h1 h2 h3 h4 => ?_⟩
  · obtain ⟨hj, h'⟩ := get j _ h
    rw [List.getElem?_set_ne hj]
    exact S.sh j d h'
  · obtain ⟨hj, h'⟩ := get j _ h
    rw [List.getElem?_set_ne hj]
    exact S.ow j d h'
  · obtain ⟨hj, h1'⟩ := get j _ h1
    obtain ⟨hk, h2'⟩ := get k _ h2
    rw [List.getElem?_set_ne hj] at h3
    rw [List.getElem?_set_ne hk] at h4
    exact S.ne j k d d' a h1' h2' h3 h4
/-- the error's name is gone behind the suite; nothing is raised out of it -/
def clrN (i : Nat) : Out → Out
  | .nx e => .nx (e.set i none)
  | .bk e => .bk (e.set i none)
  | .ct e => .ct (e.set i none)
  | .rt d => .rt d
  | .ro d => .ro d
  | _ => .bad
open Classical in
/-- what is so at every address -/
noncomputable def unif (g : Addr → Out) : Out := if h : ∃ r, ∀ a, g a = r then Classical.choose h else .bad
theorem unif_of {g : Addr → Out} {r : Out} (h : ∀ a, g a = r) : unif g = r := by
  have hx : ∃ r, ∀ a, g a = r := ⟨r, h⟩
  unfold unif
  rw [dif_pos hx]
  exact (Classical.choose_spec hx 0).symm.trans (h 0)
theorem unif_at {g : Addr → Out} (h : unif g ≠ .bad) (a : Addr) : unif g = g a := by
  unfold unif at h ⊢
  by_cases hx : ∃ r, ∀ a, g a = r
  · rw [dif_pos hx]; exact (Classical.choose_spec hx a).symm
  · rw [dif_neg hx] at h; exact absurd rfl h
noncomputable def sTryAs (i : Nat) (h : String → Option Bool) (fb : DL.Env → Out) (fs : Addr → String → DL.Env → Out) : DL.Env → Out := fun e => match fb e with
  | .ex c fs' e' => match h c with
    | some true => if fs' = [] then unif fun a => clrN i (fs a c (e'.set i (some (.obj (.ref a), false)))) else .bad
    | some false => .ex c fs' e'
    | none => .bad
  | r => r
section
variable {X : Cx} {W : WX} {A : Nat → Prop} {a b : Expr} {rest : List Expr} {pos p p1 p2 : Pos} {H0 G0 : Hp}
theorem ds_tryAs {i : Nat} {x n : Str} {c : Value} {body suite : List Stmt} {b₀ : Stmt} {np pos' : Pos} {h : String → Option Bool} {fb : DL.Env → Out} {fs : Addr → String → DL.Env → Out} (hs : X.stack = X.env :: X.outer) (hf : X.env.frame = some X.env.locals) (hN : X.N.Nodup) (hi : X.N[i]? = some n) (hln : X.env.kindOf n = some .local) (hc : Names X x c) (tk : Takes X W)
    (hh : Clause X.K X.mg c h)
    (hb : ∀ (W' : WX) (pn : List (Addr × Obj)) (xe : Value → Shared → Prop), Takes (X.tr pn xe) W' → PassesOwn (model X.prog X.w) X.A X.env xe → DSs (X.tr pn xe) W' H0 G0 body fb)
    (hsu : ∀ (a : Addr) (oe : Obj) (cls : Value) (pn : List (Addr × Obj)) (k : String), Zc cls none oe → (∃ vs, oe.data = .fields vs) → X.mg (Str.ofString k) = some cls → DSs (X.suite a ((a, oe) :: pn)) WF H0 G0 (b₀ :: suite) (fs a k)) :
    DS X W H0 G0 (.Try body [.ExceptHandler (some (.Name x np)) (some n) (b₀ :: suite) pos'] [] [] pos) (sTryAs i h fb fs) := by
  refine (ps_try_as (tb := fun W' => tS X.K X.mg W' H0 G0 fb) (Wout := W) (i := i)
    (ts := fun a cls d Z σ H => ∃ k, X.mg (Str.ofString k) = some cls ∧ d = none ∧ tS X.K X.mg WF H0 G0 (fs a k) Z σ H) hs hf hN hi hln hc tk hb (fun a oe cls d pn hz hd => ?_)).imp fun Z σ H ⟨e, G, S, q⟩ => ⟨e, G, S, ?_⟩
  · refine ⟨fun pins s σ H Z I ⟨k, hk, hn, t⟩ => ?_⟩
    subst hn
    exact (hsu a oe cls pn k hz hd hk).run pins s σ H Z I t
  · unfold sTryAs at q
    cases hr : fb e with
    | ex k fs' e' =>
      rw [hr] at q
      dsimp only at q
      refine fun cls o σ' H' G' H2 S' s2 ix => ?_
      cases hk : h k with
      | none => rw [hk] at q; exact q.elim
      | some b =>
        refine ⟨b, hh k b cls hk ix.1, fun eb a _ => ?_, fun eb => ?_⟩
        · subst eb
          rw [hk] at q
          dsimp only at q
          by_cases hfs : fs' = []
          · rw [if_pos hfs] at q
            have ho : o = none := by
              cases o with
              | none => rfl
              | some d => exact absurd hfs ix.2.1
            subst ho
            have S2 : StOk X.K H0 G0 σ' e' H2 G' := ⟨⟨S'.ext.hh.trans s2, S'.ext.gg, S'.ext.gh.trans s2, S'.ext.new⟩, S'.len, S'.sh, fun i d h => let ⟨a, q1, q2, q3, q4⟩ := S'.ow i d h; ⟨a, q1, q2, q3, q4.mono s2 (Sub.refl _)⟩, S'.ne⟩
            have S3 := S2.set i (d := .obj (.ref a)) (v := .ref a) rfl
            refine ⟨k, ix.1, rfl, _, G', S3, ?_⟩
            have nb : unif (fun a => clrN i (fs a k (e'.set i (some (.obj (.ref a), false))))) ≠ .bad := fun z => by rw [z] at q; exact q
            rw [unif_at nb a] at q
            cases hq : fs a k (e'.set i (some (.obj (.ref a), false))) with
            | nx e2 => rw [hq] at q; exact fun σ5 H5 G5 S5 => q _ H5 G5 (S5.clear i)
            | bk e2 => rw [hq] at q; exact fun σ5 H5 G5 S5 => q _ H5 G5 (S5.clear i)
            | ct e2 => rw [hq] at q; exact fun σ5 H5 G5 S5 => q _ H5 G5 (S5.clear i)
            | rt d => rw [hq] at q; exact q
            | ro d => rw [hq] at q; exact q
            | ex c' f' e2 => rw [hq] at q; exact q.elim
            | bad => rw [hq] at q; exact q.elim
          · rw [if_neg hfs] at q; exact q.elim
        · subst eb
          rw [hk] at q
          exact q cls o σ' H' G' H2 S' s2 ix
    | nx e' => rw [hr] at q; exact q
    | rt d => rw [hr] at q; exact q
    | ro d => rw [hr] at q; exact q
    | bk e' => rw [hr] at q; exact q
    | ct e' => rw [hr] at q; exact q
    | bad => rw [hr] at q; exact q.elim
/-! ### isinstance of the caught error -/
def IsTab (K : PySem.W.Frag) (mg : Str → Option Value) (cv : Value) (t : String → Option Bool) : Prop := ∀ c b cls, t c = some b → mg (Str.ofString c) = some cls → ∃ C, cls = .ref C ∧ ExcC K C ∧ PySem.W.kitOne K (.ref C) cv = some b
theorem IsTab.nil {K : PySem.W.Frag} {mg : Str → Option Value} {cv : Value} : IsTab K mg cv (fun _ => none) := fun c b cls h _ => by cases h
theorem IsTab.cons {K : PySem.W.Frag} {mg : Str → Option Value} {cv : Value} {n : String} {C : Addr} {b : Bool} {f : String → Option Bool} (hm : mg (Str.ofString n) = some (.ref C)) (hc : ExcC K C) (he : PySem.W.kitOne K (.ref C) cv = some b) (t : IsTab K mg cv f) : IsTab K mg cv (fun s => if s = n then some b else f s) := fun k b' cls h hcl => by
  dsimp only at h
  by_cases hk : k = n
  · subst hk
    rw [if_pos rfl] at h
    cases h
    rw [hm] at hcl
    cases hcl
    exact ⟨C, rfl, hc, he⟩
  · rw [if_neg hk] at h
    exact t k b' cls h hcl
theorem kit_self {K : PySem.W.Frag} {v : Value} (h : (v == v) = true) : PySem.W.kitOne K v v = some true := by
  unfold PySem.W.kitOne
  rw [if_pos h]
theorem kit_own {K : PySem.W.Frag} {A S : Addr} {b : Bool} (hne : (Value.ref A == Value.ref S) = true → b = true) (h2 : PySem.W.isClsIn K S = true) (h3 : PySem.W.typeIn K (.ref S) = some (.type "type")) (h4 : PySem.W.subIn K (.ref A) (.ref S) = some b) : PySem.W.kitOne K (.ref A) (.ref S) = some b := by
  unfold PySem.W.kitOne
  by_cases h : (Value.ref A == Value.ref S) = true
  · rw [if_pos h, hne h]
  · rw [if_neg h]
    have e2 : ((PySem.W.clsIn K S).isSome && PySem.W.typeIn K (.ref S) == some (.type "type")) = true := by
      have h2' : (PySem.W.clsIn K S).isSome = true := h2
      rw [h2', h3]; rfl
    show (if ((PySem.W.clsIn K S).isSome && PySem.W.typeIn K (.ref S) == some (.type "type")) = true then PySem.W.subIn K (.ref A) (.ref S) else none) = some b
    rw [if_pos e2]
    exact h4
def eIsE (i : Nat) (a : Addr) (o : Option Bool) : DL.Env → Res D := fun e => match e[i]? with
  | some (some (.obj (.ref a'), false)) => if a' = a then (match o with | some b => .ok (.bl b) | none => .bad) else .bad
  | _ => .bad
theorem de_isE {i : Nat} {x n y : Str} {k : String} {ad : Addr} {oe : Obj} {cls cv : Value} {v : V} {pn : List (Addr × Obj)} {t : String → Option Bool} {p3 : Pos} (ht : IsTab X.K X.mg cv t) (hm : X.mg (Str.ofString k) = some cls) (hz : Zc cls none oe) (hf : ∃ vs, oe.data = .fields vs)
    (hN : X.N[i]? = some n) (hv : Vis X.env.scope n) (hg : Gl X x) (hmx : X.mg x = none) (hvx : bootBuiltins x = some (.builtin "isinstance")) (hy : PE (X.suite ad ((ad, oe) :: pn)) (.Name y p3) (tC v)) (hcv : ∀ u, RelV v u → u = cv)
    (hnx : x ≠ "__name__" := by decide) (hd : (n == ("__debug__" : Str)) = false := by decide) (hcd : (n == ("__classdict__" : Str)) = false := by decide) (hdb : (x == ("__debug__" : Str)) = false := by decide)
    (he : starEach (.Name n p2 :: [.Name y p3]) X.env = (false, eval (.Name n p2) X.env) :: starEach [.Name y p3] X.env := by rfl) (he2 : starEach (.Name y p3 :: []) X.env = (false, eval (.Name y p3) X.env) :: starEach [] X.env := by rfl) (hpl : (backTo pos (starEach [.Name y p3] X.env)).any (·.1) = false := by rfl) :
    DE (X.suite ad ((ad, oe) :: pn)) W A (.Call (.Name x p) [.Name n p2, .Name y p3] [] pos) (eIsE i ad (t k)) := by
  cases hk : t k with
  | none => exact ⟨fun pins s σ H Q I ⟨e, G, E, q⟩ => by
      unfold eIsE at q
      revert q
      split
      · split
        · exact fun q => q.elim
        · exact fun q => q.elim
      · exact fun q => q.elim⟩
  | some b =>
    obtain ⟨C, hC, hE, hK⟩ := ht k b cls hk hm
    subst hC
    refine (pe_callB (X := X.suite ad ((ad, oe) :: pn)) (call_isE hE hz hf) hg hmx hvx (pa_cons (de_vs (W := W) (A := A) (i := i) hN hv hd hcd) (pa_cons hy pa_nil he2) he) hnx hdb he hpl).imp fun σ H Q ⟨e, G, E, q⟩ => ?_
    refine ⟨e, G, E, ?_⟩
    unfold eIsE at q
    unfold eVarS
    revert q
    cases hi : e[i]? with
    | none => exact fun q => q.elim
    | some sl =>
      cases sl with
      | none => exact fun q => q.elim
      | some z =>
        obtain ⟨d, o⟩ := z
        cases o with
        | true => intro q; cases d <;> try exact q.elim
                  rename_i u; cases u <;> exact q.elim
        | false =>
          cases d with
          | obj u =>
            cases u with
            | ref a' =>
              intro q
              dsimp only at q ⊢
              by_cases ha : a' = ad
              · rw [if_pos ha] at q
                subst ha
                intro H' G' x1 v1 r1
                cases (show v1 = .ref a' from r1)
                exact ⟨v, cv, b, rfl, hcv, hK, (q.ext x1).val x1.gh rfl⟩
              · rw [if_neg ha] at q; exact q.elim
            | _ => exact fun q => q.elim
          | _ => exact fun q => q.elim
end
end DL

namespace DL
open PySem PySem.Spec PyProof.Rows L2
open PySem.Builtin.Int (intBits)
/-! ### dicts: the data -/
open Classical in
/-- what stands at a key -/
noncomputable def dFind (kvs : List (D × D)) (k : D) : Option D := (kvs.find? fun p => decide (p.1 = k)).map (·.2)
open Classical in
/-- a key set -/
noncomputable def dSet (kvs : List (D × D)) (k d : D) : List (D × D) := if (kvs.any fun p => decide (p.1 = k)) = true then kvs.map (fun p => if p.1 = k then (p.1, d) else p) else kvs ++ [(k, d)]
theorem keyD_inj {a b : Key} (h : keyD a = keyD b) : a = b := by
  cases a <;> cases b <;> simp [keyD] at h <;> rw [h]
theorem keyT_inj : ∀ {a b : List Key}, keyT a = keyT b → a = b := by
  intro a b h
  unfold keyT at h
  injection h with h
  induction a generalizing b with
  | nil => cases b with
    | nil => rfl
    | cons _ _ => simp at h
  | cons x a ih => cases b with
    | nil => simp at h
    | cons y b =>
      simp only [List.map_cons, List.cons.injEq] at h
      rw [keyD_inj h.1, ih h.2]
section
variable {κ : Type} [DecidableEq κ] {f : κ → D} {K : PySem.W.Frag} {G : Hp}
theorem repv_find (hf : ∀ a b, f a = f b → a = b) : ∀ {kvs : List (D × D)} {ps : List (κ × V)}, kvs.map (·.1) = ps.map (fun p => f p.1) → RepV K G kvs (ps.map (·.2)) → ∀ k : κ,
    (dFind kvs (f k) = none ∧ valV ps k = none) ∨ ∃ d v, dFind kvs (f k) = some d ∧ valV ps k = some v ∧ Rep K G d v
  | [], [], _, _, k => .inl ⟨rfl, rfl⟩
  | [], _ :: _, h, _, _ => by simp at h
  | _ :: _, [], h, _, _ => by simp at h
  | (k0, d0) :: kvs, (c0, v0) :: ps, h, r, k => by
    simp only [List.map_cons, List.cons.injEq] at h
    obtain ⟨v, r', e, r1, r2⟩ := r
    simp only [List.map_cons, List.cons.injEq] at e
    obtain ⟨e1, e2⟩ := e
    subst e1 e2
    have ih := repv_find hf h.2 r2 k
    have hk0 : k0 = f c0 := h.1
    subst hk0
    by_cases hk : c0 = k
    · subst hk
      refine .inr ⟨d0, v0, ?_, ?_, r1⟩
      · simp [dFind]
      · simp [valV]
    · have hk' : ¬ f c0 = f k := fun z => hk (hf _ _ z)
      have e1 : dFind ((f c0, d0) :: kvs) (f k) = dFind kvs (f k) := by simp [dFind, hk']
      have e2 : valV ((c0, v0) :: ps) k = valV ps k := by simp [valV, hk]
      rw [e1, e2]
      exact ih
theorem any_same (hf : ∀ a b, f a = f b → a = b) : ∀ {kvs : List (D × D)} {ps : List (κ × V)}, kvs.map (·.1) = ps.map (fun p => f p.1) → ∀ k : κ,
    (∃ p ∈ kvs, p.1 = f k) ↔ ∃ p ∈ ps, p.1 = k
  | [], [], _, k => by simp
  | [], _ :: _, h, _ => by simp at h
  | _ :: _, [], h, _ => by simp at h
  | (k0, d0) :: kvs, (c0, v0) :: ps, h, k => by
    simp only [List.map_cons, List.cons.injEq] at h
    have ih := any_same hf h.2 k
    have hk0 : k0 = f c0 := h.1
    subst hk0
    simp only [List.mem_cons, exists_eq_or_imp, ih]
    constructor
    · rintro (z | z)
      · exact .inl (hf _ _ z)
      · exact .inr z
    · rintro (z | z)
      · exact .inl (by rw [z])
      · exact .inr z
open Classical in
theorem repv_map (hf : ∀ a b, f a = f b → a = b) {d : D} {v : V} (rd : Rep K G d v) (k : κ) : ∀ {kvs : List (D × D)} {ps : List (κ × V)}, kvs.map (·.1) = ps.map (fun p => f p.1) → RepV K G kvs (ps.map (·.2)) →
    (kvs.map (fun p => if p.1 = f k then (p.1, d) else p)).map (·.1) = (ps.map fun kv => if kv.1 = k then (kv.1, v) else kv).map (fun p => f p.1) ∧ RepV K G (kvs.map (fun p => if p.1 = f k then (p.1, d) else p)) ((ps.map fun kv => if kv.1 = k then (kv.1, v) else kv).map (·.2))
  | [], [], _, _ => ⟨rfl, rfl⟩
  | [], _ :: _, h, _ => by simp at h
  | _ :: _, [], h, _ => by simp at h
  | (k0, d0) :: kvs, (c0, v0) :: ps, h, r => by
    simp only [List.map_cons, List.cons.injEq] at h
    obtain ⟨v1, r', e, r1, r2⟩ := r
    simp only [List.map_cons, List.cons.injEq] at e
    obtain ⟨e1, e2⟩ := e
    subst e1 e2
    obtain ⟨a, b⟩ := repv_map hf rd k h.2 r2
    have hk0 : k0 = f c0 := h.1
    subst hk0
    by_cases hk : c0 = k
    · subst hk
      simp only [List.map_cons, if_true]
      exact ⟨by rw [← a], v, _, rfl, rd, b⟩
    · have hk' : ¬ f c0 = f k := fun z => hk (hf _ _ z)
      simp only [List.map_cons, if_neg hk, if_neg hk']
      exact ⟨by rw [← a], v0, _, rfl, r1, b⟩
theorem repv_app : ∀ {kvs : List (D × D)} {vs : List V} {k d : D} {v : V}, RepV K G kvs vs → Rep K G d v → RepV K G (kvs ++ [(k, d)]) (vs ++ [v])
  | [], _, k, d, v, rfl, h => ⟨v, [], rfl, h, rfl⟩
  | (_, d0) :: kvs, _, k, d, v, ⟨v0, r', e, r1, r2⟩, h => ⟨v0, r' ++ [v], by rw [e]; rfl, r1, repv_app r2 h⟩
/-- a key set: data and values stay together -/
theorem repv_set (hf : ∀ a b, f a = f b → a = b) {kvs : List (D × D)} {ps : List (κ × V)} (h : kvs.map (·.1) = ps.map (fun p => f p.1)) (r : RepV K G kvs (ps.map (·.2))) {d : D} {v : V} (rd : Rep K G d v) (k : κ) :
    (dSet kvs (f k) d).map (·.1) = (putK ps k v).map (fun p => f p.1) ∧ RepV K G (dSet kvs (f k) d) ((putK ps k v).map (·.2)) := by
  have ha := any_same hf h k
  unfold dSet putK
  by_cases hx : ∃ p ∈ ps, p.1 = k
  · rw [if_pos (by simpa using ha.mpr hx), if_pos (by simpa using hx)]
    exact repv_map hf rd k h r
  · have hy : ¬ ∃ p ∈ kvs, p.1 = f k := fun z => hx (ha.mp z)
    rw [if_neg (by simpa using hy), if_neg (by simpa using hx)]
    refine ⟨by simp [h], ?_⟩
    rw [List.map_append]
    exact repv_app r rd
end
end DL

namespace DL
open PySem PySem.Spec PyProof.Rows L2
open PySem.Builtin.Int (intBits)
/-! ### dicts: the rules -/
def eDNew (t : Bool) : DL.Env → Res D := fun _ => .ok (.dct t [])
section
variable {X : Cx} {W : WX} {A : Nat → Prop} {a b : Expr} {rest : List Expr} {pos p p1 p2 apos cpos : Pos} {H0 G0 : Hp}
theorem df_dnewK : DF X W A (.Dict [] [] pos) (eDNew false) :=
  pe_dnewK.imp fun σ H Q ⟨e, G, E, q⟩ p hp => q (upd H p (.dK [])) G ⟨Sub.upd hp, Sub.refl _, E.sub.trans (Sub.upd hp), fun b z => .inl z⟩ p hp (E.sub.free hp) (.inl ⟨rfl, [], upd_same, rfl, rfl⟩)
theorem df_dnewT : DF X W A (.Dict [] [] pos) (eDNew true) :=
  pe_dnewT.imp fun σ H Q ⟨e, G, E, q⟩ p hp => q (upd H p (.dT [])) G ⟨Sub.upd hp, Sub.refl _, E.sub.trans (Sub.upd hp), fun b z => .inl z⟩ p hp (E.sub.free hp) (.inr ⟨rfl, [], upd_same, rfl, rfl⟩)
/-- a key that fits the dict's kind -/
def D.isKey : D → Bool
  | .int _ => true
  | .str _ => true
  | _ => false
def D.keyOk (t : Bool) : D → Bool
  | .tup ds => t && ds.all D.isKey
  | d => !t && d.isKey
theorem key_of {d : D} (h : d.isKey = true) : ∃ k : Key, d = keyD k := by
  cases d with
  | int i => exact ⟨.inl i, rfl⟩
  | str x => exact ⟨.inr x, rfl⟩
  | _ => cases h
theorem keys_of : ∀ {ds : List D}, ds.all D.isKey = true → ∃ ks : List Key, ds = ks.map keyD
  | [], _ => ⟨[], rfl⟩
  | d :: ds, h => by
    simp only [List.all_cons, Bool.and_eq_true] at h
    obtain ⟨k, e⟩ := key_of h.1
    obtain ⟨ks, e2⟩ := keys_of h.2
    exact ⟨k :: ks, by rw [e, e2]; rfl⟩
theorem rep_key {K : PySem.W.Frag} {G : Hp} {k : Key} {v : V} (r : Rep K G (keyD k) v) : v = kV k := by
  cases k with
  | inl i => exact r
  | inr x => exact r
theorem rep_keys {K : PySem.W.Frag} {G : Hp} : ∀ {ks : List Key} {vs : List V}, RepL K G (ks.map keyD) vs → vs = ks.map kV
  | [], _, h => h
  | k :: ks, _, ⟨v, r, e, h1, h2⟩ => by rw [e, rep_key h1, rep_keys h2]; rfl
/-- what a dict tells at a key -/
theorem dget_rep {K : PySem.W.Frag} {H G : Hp} {t : Bool} {kvs : List (D × D)} {a : Addr} {k : D} {y : V} (sg : Sub G H) (r : RepC K H G (.dct t kvs) (.ref a)) (hk : D.keyOk t k = true) (ry : Rep K G k y) :
    ∃ o, DGet H a y o ∧ ((dFind kvs k = none ∧ o = none) ∨ ∃ d v, dFind kvs k = some d ∧ o = some v ∧ Rep K G d v) := by
  obtain ⟨a', ea, h⟩ := r
  cases ea
  rcases h with ⟨t0, ps, s, hkeys, rv⟩ | ⟨t0, ps, s, hkeys, rv⟩
  · subst t0
    have hk' : k.isKey = true := by
      cases k with
      | tup ds => simp [D.keyOk] at hk
      | _ => simpa [D.keyOk] using hk
    obtain ⟨κ, e⟩ := key_of hk'
    subst e
    refine ⟨valV ps κ, .inl ⟨ps, κ, s, rep_key ry, rfl⟩, ?_⟩
    exact repv_find (fun _ _ => keyD_inj) hkeys rv κ
  · subst t0
    cases k with
    | tup ds =>
      have hk' : ds.all D.isKey = true := by simpa [D.keyOk] using hk
      obtain ⟨ks, e⟩ := keys_of hk'
      subst e
      obtain ⟨b, vs, e1, e2, e3⟩ := ry
      have := rep_keys e3
      subst this
      refine ⟨valV ps ks, .inr ⟨ps, ks, b, s, e1, sg _ _ e2, rfl⟩, ?_⟩
      exact repv_find (f := keyT) (fun _ _ => keyT_inj) hkeys rv ks
    | _ => simp [D.keyOk] at hk
/-- d[k] -/
noncomputable def dAt : D → D → Res D := fun d k => match d with
  | .dct t kvs => if D.keyOk t k = true then (match dFind kvs k with | some x => .ok x | none => .bad) else .bad
  | _ => .bad
theorem de_dix {fa fb : DL.Env → Res D} (hu : X.A.units + 1 < cLine) (ha : DR X W A a fa) (hb : DE X W A b fb) (hs : NoSl b) : DE X W A (.Subscript a b pos) (eOp dAt fa fb) :=
  (pe_dget hu ha hb hs).imp fun σ H Q ⟨e, G, E, q⟩ => ⟨e, G, E, q.split.imp fun d H1 G1 x1 q1 v rv => ⟨e, G1, E.ext x1, q1.split.imp fun k H2 G2 x2 q2 y ry => by
    have rv := rv.mono x2.hh x2.gg
    cases d with
    | dct t kvs =>
      dsimp only [dAt] at q2
      by_cases hk : D.keyOk t k = true
      · rw [if_pos hk] at q2
        obtain ⟨a', ea, _⟩ := id rv
        subst ea
        obtain ⟨o, h1, h2⟩ := dget_rep x2.gh rv hk ry
        rcases h2 with ⟨e1, e2⟩ | ⟨d, w, e1, e2, e3⟩
        · rw [e1] at q2; exact q2.elim
        · rw [e1] at q2
          subst e2
          exact ⟨a', w, rfl, h1, q2.here x2.gh w e3⟩
      · rw [if_neg hk] at q2; exact q2.elim
    | _ => exact (show False from q2).elim⟩⟩
/-- d.get(k, x) -/
noncomputable def dGet2 : D → D → D → Res D := fun d k x => match d with
  | .dct t kvs => if D.keyOk t k = true then .ok ((dFind kvs k).getD x) else .bad
  | _ => .bad
noncomputable def eGet2 (fa fb fc : DL.Env → Res D) : DL.Env → Res D := fun e => (fa e).bind fun d => match d with
  | .dct t kvs => (fb e).bind fun k => (fc e).bind fun x => dGet2 (.dct t kvs) k x
  | _ => .bad
theorem de_get2 {c : Expr} {fa fb fc : DL.Env → Res D} (hu : X.A.units + 1 < cLine) (ha : DR X W A a fa) (hb : DE X W A b fb) (hc : DE X W A c fc) (m : M2 X a "get" apos b c cpos) : DE X W A (.Call (.Attribute a "get" apos) [b, c] [] cpos) (eGet2 fa fb fc) :=
  (pe_dget2 hu ha hb hc m).imp fun σ H Q ⟨e, G, E, q⟩ => ⟨e, G, E, q.split.imp fun d H1 G1 x1 q1 v rv => by
    cases d with
    | dct t kvs =>
      dsimp only at q1
      obtain ⟨a', ea, hd⟩ := id rv
      subst ea
      refine ⟨a', rfl, ?_, e, G1, E.ext x1, q1.split.imp fun k H2 G2 x2 q2 y ry => ⟨e, G2, (E.ext x1).ext x2, q2.split.imp fun x H3 G3 x3 q3 z rz => ?_⟩⟩
      · rcases hd with ⟨_, ps, s, _⟩ | ⟨_, ps, s, _⟩
        · exact .inl ⟨ps, s⟩
        · exact .inr ⟨ps, s⟩
      · have rv := (rv.mono x2.hh x2.gg).mono x3.hh x3.gg
        dsimp only [dGet2] at q3
        by_cases hk : D.keyOk t k = true
        · rw [if_pos hk] at q3
          obtain ⟨o, h1, h2⟩ := dget_rep x3.gh rv hk (ry.mono x3.gg)
          rcases h2 with ⟨e1, e2⟩ | ⟨d, w, e1, e2, e3⟩
          · rw [e1] at q3
            subst e2
            exact ⟨none, h1, q3.here x3.gh z rz⟩
          · rw [e1] at q3
            subst e2
            exact ⟨some w, h1, q3.here x3.gh w e3⟩
        · rw [if_neg hk] at q3; exact q3.elim
    | _ => exact (show False from q1).elim⟩
end
end DL

namespace DL
open PySem PySem.Spec PyProof.Rows L2
open PySem.Builtin.Int (intBits)
theorem _root_.L2.Room.hu1 {k : Nat} {A : Around} (h : Room k A) : A.units + 1 < cLine := by have := h.un; omega
/-- the dict that the name i holds, to be changed -/
def ownD (i : Nat) (e : DL.Env) (k : Bool → List (D × D) → Out) : Out := match e[i]? with
  | some (some (.dct t kvs, true)) => k t kvs
  | _ => .bad
/-- x[k] = v -/
noncomputable def sPutD (al : List Nat) (i : Nat) (fk fv : DL.Env → Res D) : DL.Env → Out := fun e => ownD i (fz al e) fun t kvs => sE al (fun e => (fv e).bind fun v => (fk e).bind fun k => .ok (k, v)) (fun kv e' =>
  if D.keyOk t kv.1 = true ∧ kvs.length < sizeLine then .nx (e'.set i (some (.dct t (dSet kvs kv.1 kv.2), true))) else .bad) e
section
variable {X : Cx} {W : WX} {H0 G0 : Hp} {al : List Nat} {pos p1 p2 : Pos}
theorem ownD_inv {i : Nat} {e : DL.Env} {k : Bool → List (D × D) → Out} {Z : Ends} {K : PySem.W.Frag} {mg : Str → Option Value} (p : SPost K mg W H0 G0 (ownD i e k) Z) : ∃ t kvs, e[i]? = some (some (.dct t kvs, true)) ∧ SPost K mg W H0 G0 (k t kvs) Z := by
  unfold ownD at p
  split at p
  · rename_i t kvs h; exact ⟨t, kvs, h, p⟩
  · exact p.elim
theorem ds_putD {i : Nat} {x : Str} {ik ev : Expr} {fk fv : DL.Env → Res D} (hu : X.A.units + 1 < cLine) (hN : X.N[i]? = some x) (hv : Vis X.env.scope x) (hk : DE X W (fun i => i ∈ al) ik fk) (he : DE X W (fun i => i ∈ al) ev fv)
    (hd : (x == ("__debug__" : Str)) = false := by decide) (hcd : (x == ("__classdict__" : Str)) = false := by decide)
    (hs : swapsWith ev (some (.Subscript (.Name x p1) ik p2)) pos.line X.env = pure false := by rfl) :
    DS X W H0 G0 (.Assign [.Subscript (.Name x p1) ik p2] ev pos) (sPutD al i fk fv) := by
  refine (ps_dput hu (pe_var hN hv hd hcd) hk he hs).imp fun Z σ H ⟨e, G, S, p⟩ => ?_
  obtain ⟨GA, E, nxt⟩ := S.exp al
  have S1 := nxt H GA (Ext.refl E.sub)
  obtain ⟨t, kvs, hx, p⟩ := ownD_inv p
  obtain ⟨a, q1, _, _, q4⟩ := S1.ow i _ hx
  unfold sE at p
  dsimp only at p
  refine ⟨e, GA, E, ?_⟩
  cases hr : fv e with
  | exc c fs' =>
    rw [hr] at p
    exact fun cls o H' s ix => p cls o σ H GA H' S1 s ix
  | bad => rw [hr] at p; exact p.elim
  | ok dv =>
    rw [hr] at p
    intro H1 G1 x1 v rv
    refine ⟨.ref a, q1, e, G1, E.ext x1, ?_⟩
    cases hr2 : fk e with
    | exc c fs' =>
      simp only [Res.bind_ok, hr2] at p
      exact fun cls o H' s ix => p cls o σ H1 G1 H' (nxt H1 G1 x1) s ix
    | bad => simp only [Res.bind_ok, hr2] at p; exact p.elim
    | ok dk =>
      simp only [Res.bind_ok, hr2] at p
      intro H2 G2 x2 k rk
      have xx := x1.trans x2
      have S2 := nxt H2 G2 xx
      have rv2 := rv.mono x2.gg
      by_cases hc : D.keyOk t dk = true ∧ kvs.length < sizeLine
      · rw [if_pos hc] at p
        have q4' := q4.mono xx.hh xx.gg
        rcases q4' with ⟨t0, ps, s, hkeys, rvv⟩ | ⟨t0, ps, s, hkeys, rvv⟩
        · subst t0
          have hk' : dk.isKey = true := by
            cases dk with
            | tup ds => simp [D.keyOk] at hc
            | _ => simpa [D.keyOk] using hc.1
          obtain ⟨κ, ek⟩ := key_of hk'
          subst ek
          have hl : ps.length < sizeLine := by
            have := congrArg List.length hkeys
            rw [List.length_map, List.length_map] at this
            omega
          obtain ⟨n1, n2⟩ := repv_set (fun _ _ => keyD_inj) hkeys rvv rv2 κ
          refine ⟨a, _, rfl, .inl ⟨ps, κ, s, rep_key rk, hl, rfl⟩, ?_⟩
          exact p σ _ G2 (S2.change hx q1 (.inl ⟨rfl, _, upd_same, n1, n2⟩))
        · subst t0
          cases dk with
          | tup ds =>
            have hk' : ds.all D.isKey = true := by simpa [D.keyOk] using hc.1
            obtain ⟨ks, ek⟩ := keys_of hk'
            subst ek
            obtain ⟨b, vs, e1, e2, e3⟩ := rk
            have ev' := rep_keys e3
            subst ev'
            have hl : ps.length < sizeLine := by
              have := congrArg List.length hkeys
              rw [List.length_map, List.length_map] at this
              omega
            obtain ⟨n1, n2⟩ := repv_set (f := keyT) (fun _ _ => keyT_inj) hkeys rvv rv2 ks
            refine ⟨a, _, rfl, .inr ⟨ps, ks, b, s, e1, xx.gh _ _ e2, hl, rfl⟩, ?_⟩
            exact p σ _ G2 (S2.change hx q1 (.inr ⟨rfl, _, upd_same, n1, n2⟩))
          | _ => simp [D.keyOk] at hc
      · rw [if_neg hc] at p; exact p.elim
/-- k in d, k not in d -/
noncomputable def dIn (no : Bool) : D → D → Res D := fun k d => match d with
  | .dct t kvs => if D.keyOk t k = true then .ok (.bl ((dFind kvs k).isSome != no)) else .bad
  | _ => .bad
theorem in_two {A : Nat → Prop} {fa fb : DL.Env → Res D} {no : Bool} {σ : L2.St} {H : Hp} {Q : VK} (h : tD X.K X.mg W A (eOp (dIn no) fa fb) σ H Q) :
    tD X.K X.mg W A fa σ H fun y H1 => tR X.K X.mg W A fb σ H1 fun x H2 => ∃ a o, x = V.ref a ∧ DGet H2 a y o ∧ Q (V.bl (o.isSome != no)) H2 := by
  obtain ⟨e, G, E, q⟩ := h
  refine ⟨e, G, E, q.split.imp fun k H1 G1 x1 q1 y ry => ⟨e, G1, E.ext x1, q1.split.imp fun d H2 G2 x2 q2 v rv => ?_⟩⟩
  cases d with
  | dct t kvs =>
    dsimp only [dIn] at q2
    by_cases hk : D.keyOk t k = true
    · rw [if_pos hk] at q2
      obtain ⟨a', ea, _⟩ := id rv
      subst ea
      obtain ⟨o, h1, h2⟩ := dget_rep x2.gh rv hk (ry.mono x2.gg)
      rcases h2 with ⟨e1, e2⟩ | ⟨d, w, e1, e2, e3⟩
      · rw [e1] at q2
        subst e2
        exact ⟨a', none, rfl, h1, q2.here x2.gh _ rfl⟩
      · rw [e1] at q2
        subst e2
        exact ⟨a', some w, rfl, h1, q2.here x2.gh _ rfl⟩
    · rw [if_neg hk] at q2; exact q2.elim
  | _ => exact (show False from q2).elim
theorem de_din {A : Nat → Prop} {a b : Expr} {fa fb : DL.Env → Res D} (hu : X.A.units + 1 < cLine) (ha : DE X W A a fa) (hb : DR X W A b fb) (hm : behindInMarks .In b = false := by rfl) : DE X W A (.Compare a [.In] [b] pos) (eOp (dIn false) fa fb) :=
  (pe_cmp (pc_din hu ha hb) hm).imp fun σ H Q h => by
    have := in_two h
    simp only [Bool.bne_false] at this
    exact this
theorem de_dnotin {A : Nat → Prop} {a b : Expr} {fa fb : DL.Env → Res D} (hu : X.A.units + 1 < cLine) (ha : DE X W A a fa) (hb : DR X W A b fb) (hm : behindInMarks .NotIn b = false := by rfl) : DE X W A (.Compare a [.NotIn] [b] pos) (eOp (dIn true) fa fb) :=
  (pe_cmp (pc_dnotin hu ha hb) hm).imp fun σ H Q h => by
    have := in_two h
    simp only [Bool.bne_true] at this
    exact this
theorem test_of {A : Nat → Prop} {f : DL.Env → Res D} {σ : L2.St} {H : Hp} {Q : Bool → Hp → Prop} (h : tT X.K X.mg W A (fun e => (f e).bind D.asB) σ H Q) : tD X.K X.mg W A f σ H fun v H' => ∃ k, v = .bl k ∧ Q k H' := by
  obtain ⟨e, G, E, q⟩ := h
  refine ⟨e, G, E, q.split.imp fun d H1 G1 x1 q1 v rv => ?_⟩
  cases d with
  | bl b => exact ⟨b, rv, q1.here x1.gh⟩
  | _ => exact (show False from q1).elim
theorem bTest_is (g : D → D → Res D) (fa fb : DL.Env → Res D) : bTest g fa fb = fun e => (eOp g fa fb e).bind D.asB := by
  funext e
  unfold bTest eOp
  cases fa e with
  | ok x => cases fb e with
    | ok y => rfl
    | exc c z => rfl
    | bad => rfl
  | exc c z => rfl
  | bad => rfl
theorem dt_din {A : Nat → Prop} {a b : Expr} {fa fb : DL.Env → Res D} (hu : X.A.units + 1 < cLine) (ha : DE X W A a fa) (hb : DR X W A b fb) (hm : behindInMarks .In b = false := by rfl) : DT X W A (.Compare a [.In] [b] pos) (bTest (dIn false) fa fb) :=
  (pt_cmp (pc_din hu ha hb) hm).imp fun σ H Q h => by
    rw [bTest_is] at h
    have := in_two (test_of h)
    simp only [Bool.bne_false] at this
    exact this
theorem dt_dnotin {A : Nat → Prop} {a b : Expr} {fa fb : DL.Env → Res D} (hu : X.A.units + 1 < cLine) (ha : DE X W A a fa) (hb : DR X W A b fb) (hm : behindInMarks .NotIn b = false := by rfl) : DT X W A (.Compare a [.NotIn] [b] pos) (bTest (dIn true) fa fb) :=
  (pt_cmp (pc_dnotin hu ha hb) hm).imp fun σ H Q h => by
    rw [bTest_is] at h
    have := in_two (test_of h)
    simp only [Bool.bne_true] at this
    exact this
end
end DL

/-! sorting tuples of any lengths, empty ones too -/
namespace DL
open PySem PySem.W PySem.Calls PyProof.Rows PySem.SeqAt
section
variable {prog : Program} {w : World} {A : Around} {s : Shared}
def hasItem : PyData → Bool
  | .tuple (_ :: _) => true
  | _ => false
theorem firsts_tups {M : Model} {E : Value → Shared → Prop} : ∀ {vs : List Value} {ds : List PyData} {Q : List (Option Value) → Shared → Prop}, EachIs (fun v d => ∃ as, Reads s.heap v d as) vs ds → (∀ d, d ∈ ds → ∃ xs, d = .tuple xs) →
    (∀ fs : List (Option Value), fs.map (·.isSome) = ds.map hasItem → Q fs s) → wpAny M A (vs.mapM firstOfTuple') Q E s
  | _, _, Q, .nil, _, h => by rw [List.mapM_nil]; exact wpAny_pure (h [] rfl)
  | _, _, Q, .cons (a := v) (as := vs) (b := d) (bs := ds) ⟨as, r⟩ t, ht, h => by
    obtain ⟨xs, rfl⟩ := ht d (List.mem_cons_self ..)
    rw [List.mapM_cons]
    refine wpAny_bind ?_
    rw [kas_first_eq]
    cases r with
    | @tuple a o vals n _ _ ho hc hd hr =>
      refine wpAny_bind (Looks.here (show Looks M s.heap (typeOf (.ref a)) o.cls from (Looks.ld ho).andThen .now) ?_)
      rw [hc, if_neg (by first | decide | simp)]
      refine wpAny_bind (listItems_at ho hd (wpAny_pure ?_))
      refine wpAny_bind (firsts_tups t (fun d hd => ht d (List.mem_cons_of_mem _ hd)) fun fs hfs => wpAny_pure (h _ ?_))
      rw [List.map_cons, List.map_cons, hfs]
      congr 1
      rw [← Array.getElem?_toList]
      cases xs with
      | nil =>
        generalize vals.toList = l at hr
        cases hr
        rfl
      | cons x xs =>
        generalize vals.toList = l at hr
        cases hr
        rfl
/-- tuple.__lt__ asked straight -/
theorem oneLt_tups {x y : Addr} {d e : List PyData} {as bs : List Addr} {E : Value → Shared → Prop} {Q : Bool → Shared → Prop} (ra : Reads s.heap (.ref x) (.tuple d) as) (rb : Reads s.heap (.ref y) (.tuple e) bs) (hal : alike (.tuple d) (.tuple e) = true)
    (hu : A.units + min (PyData.tuple d).depth (PyData.tuple e).depth < cLine) (h : Q (dataLt (.tuple d) (.tuple e)) s) : wpAny (model prog w) A (oneLt' true (.ref x) (.ref y)) Q E s := by
  have hall : alikeAll d e = true := by simpa [alike] using hal
  have room := hu
  cases ra with
  | @tuple _ o vs n _ as₁ h1 h2 h3 h4 =>
    cases rb with
    | @tuple _ o' vs' n' _ bs₁ k1 k2 k3 k4 =>
      have n1 : vs.size = d.length := by simpa using ReadsAll.length _ _ _ h4
      have n2 : vs'.size = e.length := by simpa using ReadsAll.length _ _ _ k4
      obtain ⟨cls, dd, data, sl⟩ := o
      obtain ⟨cls', dd', data', sl'⟩ := o'
      simp only at h2 h3 k2 k3
      subst h2 h3 k2 k3
      rw [oneLt'_eq]
      simp only [if_true]
      refine wpAny_bind (wpAny_cRoomFor (SeqAt.room_here hu) ?_)
      refine wpAny_bind (wpAny_callSpecialIfBound?_slot (T := "tuple") (s := s) (show s.TypeIs (.ref x) "tuple" from ⟨_, h1, rfl⟩) PySem.F.slot_tuple_lt ?_)
      rw [dataLt_tuple, ← firstLt_toks d e hall, ← n1, ← n2] at h
      refine call_meets PySem.F.slot_tuple_lt ⟨_, h1, rfl⟩ PySem.F.entry_tuple_lt (PySem.F.args_tuple_lt_2 _ _) (PySem.SeqAt.tuple_ltAt x y vs vs' n n' dd dd' sl sl' (pairEq d e) (fun j => dataLt (d.getD j .none) (e.getD j .none))) ⟨h1, k1, fun j j1 j2 => ?_, fun j j1 j2 hj => ?_, ?_⟩
      · have := eqAt_alikeAll d e A.in1 s vs.toList vs'.toList _ _ h4 k4 hall (SeqAt.room_in hu) j (by simpa using j1) (by simpa using j2)
        simpa using this
      · have := rcLt_alikeAll d e A.in1 s vs.toList vs'.toList _ _ h4 k4 hall (SeqAt.room_in hu) j (by simpa using j1) (by simpa using j2) hj
        simpa using this
      · exact wpAny_truthy_bool h
/-- the kind that list.sort finds -/
theorem kind_tups {vs : List Value} {ds : List PyData} (e : EachIs (fun v d => ∃ as, Reads s.heap v d as) vs ds) (ht : ∀ d, d ∈ ds → ∃ xs, d = .tuple xs) (hno : ∃ d, d ∈ ds ∧ hasItem d = false) :
    ∃ k : SortKind, (k = oneType' ∨ k = general') ∧ ∀ (M : Model) (E : Value → Shared → Prop) (Q : SortKind → Shared → Prop), Q k s → wpAny M A (keyKind' vs.toArray) Q E s := by
  cases ds with
  | nil => obtain ⟨d, hd, _⟩ := hno; cases hd
  | cons d₀ ds =>
    have hall : ∀ fs : List (Option Value), fs.map (·.isSome) = (d₀ :: ds).map hasItem → (fs.toArray.all fun x => x.isSome) = false := by
      intro fs hfs
      obtain ⟨d, hd, hf⟩ := hno
      have : false ∈ fs.map (·.isSome) := by rw [hfs]; exact List.mem_map.mpr ⟨d, hd, hf⟩
      obtain ⟨x, hx, hx2⟩ := List.mem_map.mp this
      rw [Bool.eq_false_iff]
      intro hA
      simp only [List.all_toArray, List.all_eq_true] at hA
      rw [hA x hx] at hx2
      cases hx2
    cases hd0 : hasItem d₀ with
    | true =>
      refine ⟨general', .inr rfl, fun M E Q q => ?_⟩
      rw [kat_kind_eq, List.mapM_toArray, map_eq_pure_bind]
      refine wpAny_bind (wpAny_bind (firsts_tups e ht fun fs hfs => wpAny_pure ?_))
      rw [if_neg (by rw [hall fs hfs]; decide)]
      cases fs with
      | nil => cases hfs
      | cons f fs =>
        rw [List.map_cons, List.map_cons, hd0] at hfs
        have hf : f.isSome = true := (List.cons.inj hfs).1
        have e0 : ((f :: fs).toArray[0]?.bind id).isSome = true := by simpa using hf
        rw [if_pos e0]
        exact wpAny_pure q
    | false =>
      refine ⟨oneType', .inl rfl, fun M E Q q => ?_⟩
      rw [kat_kind_eq, List.mapM_toArray, map_eq_pure_bind]
      refine wpAny_bind (wpAny_bind (firsts_tups e ht fun fs hfs => wpAny_pure ?_))
      rw [if_neg (by rw [hall fs hfs]; decide)]
      cases fs with
      | nil => cases hfs
      | cons f fs =>
        rw [List.map_cons, List.map_cons, hd0] at hfs
        have hf : f.isSome = false := (List.cons.inj hfs).1
        have e0 : ((f :: fs).toArray[0]?.bind id).isSome = false := by simpa using hf
        rw [if_neg (by rw [e0]; decide)]
        rw [oneTypeOnly'_eq, List.mapM_toArray, map_eq_pure_bind]
        refine wpAny_bind (wpAny_bind (wpAny_bind (kas_mapM (r := Value.type "tuple") _ (fun v hv Q' hq => ?_) (wpAny_pure ?_))))
        · obtain ⟨d, hd, as, r⟩ := e.left v hv
          obtain ⟨xs, rfl⟩ := ht d hd
          exact (looks_reads r).here hq
        · cases e with
          | cons h t =>
            rename_i v vs
            have hall2 : ((List.map (fun _ => Value.type "tuple") (v :: vs)).toArray.all fun x => x == Value.type "tuple") = true := by
              simp only [List.all_toArray, List.all_map, List.all_eq_true]
              intro _ _
              rfl
            have h0 : (List.map (fun _ => Value.type "tuple") (v :: vs)).toArray[0]? = some (Value.type "tuple") := by simp
            rw [h0]
            simp only [hall2, if_true]
            exact wpAny_pure (wpAny_pure q)
theorem keyLt_general (x y : Value) : keyLt' general' x y = oneLt' false x y := rfl
/-- values that read as tuples that are alike can be sorted -/
theorem sortsAt_tups {vs : List Value} {ds : List PyData} (e : EachIs (fun v d => ∃ as, Reads s.heap v d as) vs ds) (hal : AllAlike ds) (ht : ∀ d, d ∈ ds → ∃ xs, d = .tuple xs) (hu : ∀ d, d ∈ ds → A.units + d.depth < cLine) : SortsAt prog w A s (dataKind s.heap ds) vs := by
  by_cases hno : ∃ d, d ∈ ds ∧ hasItem d = false
  · obtain ⟨k, hk, hkd⟩ := kind_tups (A := A) e ht hno
    refine ⟨fun v hv => ?_, k, ?_, fun _ E Q q => hkd _ E Q q⟩
    · obtain ⟨d, hd, as, r⟩ := e.left v hv
      exact ⟨_, dataKind_some hal hd r⟩
    · intro E x y a b Q ha hb hq
      obtain ⟨d, as, hd, ra, rfl⟩ := dataKind_inv ha
      obtain ⟨d', as', hd', rb, rfl⟩ := dataKind_inv hb
      have hr : A.units + min d.depth d'.depth < cLine := Nat.lt_of_le_of_lt (Nat.add_le_add_left (Nat.min_le_left _ _) _) (hu d hd)
      obtain ⟨xs, rfl⟩ := ht d hd
      obtain ⟨ys, rfl⟩ := ht d' hd'
      rcases hk with rfl | rfl
      · rw [keyLt'_oneType]
        have hx : ∃ x', x = .ref x' := by cases ra; exact ⟨_, rfl⟩
        have hy : ∃ y', y = .ref y' := by cases rb; exact ⟨_, rfl⟩
        obtain ⟨x', rfl⟩ := hx
        obtain ⟨y', rfl⟩ := hy
        exact oneLt_tups ra rb (hal _ hd _ hd') hr hq
      · rw [keyLt_general]
        refine kat_one _ _ (lt_data ra rb (hal _ hd _ hd') (by simp) hr ?_)
        exact hq
  · refine SortsAt.data e hal (.inl fun d hd => ?_) hu
    obtain ⟨xs, rfl⟩ := ht d hd
    cases xs with
    | nil => exact absurd ⟨_, hd, rfl⟩ hno
    | cons x r => exact ⟨x, r, rfl⟩
/-- sorted(l), l of data that are alike -/
theorem sorted_all {β : Type} {vs : List Value} {bs : List β} {enc : β → PyData} {R : Value → β → Prop} {E : Value → Shared → Prop} {l : Addr} {Q : Value → Shared → Prop} (hl : s.heap.IsList l vs.toArray) (e : EachIs R vs bs) (er : EachIs (fun v b => ∃ as, Reads s.heap v (enc b) as) vs bs) (hal : AllAlike (bs.map enc))
    (hk : Sortable (bs.map enc) ∨ ∀ d, d ∈ bs.map enc → ∃ xs, d = .tuple xs) (hL : bs.length ≤ sizeLine)
    (hu : ∀ b, b ∈ bs → A.units + 2 + (enc b).depth < cLine) (h : ∀ out, out.length = bs.length → EachIs R out (bs.mergeSort (dataLe false enc)) → Q (.ref (s.heap.objs.size + 1)) { s with heap := sortedAll s.heap vs (List.toArray out) }) :
    wpAny (model prog w) A (call (.builtin "sorted") [.ref l]) Q E s := by
  rcases hk with hk | hk
  · exact sorted_data hl e er hal hk hL hu h
  · have er' : EachIs (fun v b => ∃ as, Reads (sortingHeap (copyHeap s.heap vs) (s.heap.objs.size + 1) vs) v (enc b) as) vs bs := er.mono fun _ _ ⟨as, r⟩ => ⟨as, PyProof.Rows.Reads.keeps (fun _ _ => sorting_copy_old) r⟩
    exact sorted_vals hl (sortsAt_tups (s := { s with heap := sortingHeap (copyHeap s.heap vs) (s.heap.objs.size + 1) vs }) (each_map (R := fun v d => ∃ as, Reads (sortingHeap (copyHeap s.heap vs) (s.heap.objs.size + 1) vs) v d as) enc er') hal hk (bound_map hu)) (by rw [e.length]; exact hL)
      (h _ (by rw [sortVals_length false rfl]; exact e.length) (sortVals_data false e er' hal))
end
end DL

/-! sorted(x), x a list, a tuple or a dict -/
namespace DL
open PySem PySem.Spec PyProof.Rows L2
section
open PySem.W PySem.Calls PySem.SeqAt
variable {prog : Program} {w : World} {A : Around} {s : Shared}
theorem collect_tup {l : Addr} {vs : List Value} {E : Value → Shared → Prop} {Q : List Value → Shared → Prop} (hl : s.heap.IsTuple l vs.toArray)
    (h : Q vs { s with heap := (s.heap.push (seqObj "list" #[] 0)).update s.heap.objs.size (Obj.mapSeq (· ++ vs.toArray)) }) (hsz : vs.length ≤ sizeLine := by size_fits) :
    wpAny (model prog w) A (collect (.ref l)) Q E s := by
  obtain ⟨o, ho, hc, n, hd⟩ := id hl
  unfold collect
  refine wpAny_bind (wpAny_runValue (codeAny_builtin entry_proto_collect' ?_))
  show wpAny _ _ (do again (.builtin "list.__iadd__" ⟨[← newList [], .ref l], []⟩)) _ _ s
  refine wpAny_bind (wpAny_newList (wpAny_pure ⟨Code.quiet_builtin _ (by decide +kernel), codeAny_builtin entry_list_iadd' ?_⟩))
  show wpAny _ _ (Builtin.List.listExtendWith (.ref s.heap.objs.size) (.ref l) (.ref s.heap.objs.size)) _ _ { s with heap := s.heap.push (seqObj "list" #[] 0) }
  unfold Builtin.List.listExtendWith
  have ho' : (s.heap.push (seqObj "list" #[] 0)).get? l = some o := Heap.get?_push_of_some _ ho
  refine wpAny_bind (wpAny_typeOf (T := "tuple") ⟨o, ho', hc⟩ ?_)
  have ht : (Value.type "tuple" == Value.type "tuple") = true := by rfl
  rw [if_pos (by rw [ht]; simp)]
  refine wpAny_bind (listItems_at ho' hd ?_)
  refine wpAny_bind (listItems_at (xs := #[]) (n := 0) (Heap.get?_push_size _ rfl) rfl ?_)
  rw [if_neg (by simp)]
  refine wpAny_bind (listUpdate_at (xs := #[]) (n := 0) (Heap.get?_push_size _ rfl) rfl ?_ (Nat.zero_le _) (by show (#[] ++ vs.toArray).size ≤ sizeLine + 1; simp only [Array.size_append, List.size_toArray, List.length_nil]; omega))
  refine wpAny_pure ?_
  show wpAny (model prog w) A (do
      let o ← load s.heap.objs.size
      match o.data with
      | .seq xs _ => pure xs.toList
      | _ => unsupported "internal:collect") Q E { s with heap := (s.heap.push (seqObj "list" #[] 0)).update s.heap.objs.size (Obj.mapSeq (· ++ vs.toArray)) }
  refine wpAny_bind (wpAny_load (get?_update_seq (Heap.get?_push_size _ rfl) _) ?_)
  show wpAny _ _ (pure ((#[] : Array Value) ++ vs.toArray).toList) Q E _
  rw [show ((#[] : Array Value) ++ vs.toArray).toList = vs by simp]
  exact wpAny_pure h
/-- sorted(x) of what can be collected -/
theorem sorted_gen {β : Type} {bs : List β} {enc : β → PyData} {R : Value → β → Prop} {E : Value → Shared → Prop} {x : Value} {Q : Value → Shared → Prop}
    (hc : ∀ (E' : Value → Shared → Prop) (Q' : List Value → Shared → Prop), (∀ vs h1 tk, (∀ b o, s.heap.get? b = some o → h1.get? b = some o) → EachIs R vs bs → Q' vs { s with heap := h1, toks := tk }) → wpAny (model prog w) A.in1 (collect x) Q' E' s)
    (hr : ∀ v b, R v b → ∃ as, Reads s.heap v (enc b) as) (hal : AllAlike (bs.map enc))
    (hk : Sortable (bs.map enc) ∨ ∀ d, d ∈ bs.map enc → ∃ xs, d = .tuple xs) (hL : bs.length ≤ sizeLine) (hu : ∀ b, b ∈ bs → A.units + 2 + (enc b).depth < cLine)
    (h : ∀ out d (h1 h2 : Heap) tk, (∀ b o, s.heap.get? b = some o → h1.get? b = some o) → (∀ b o, h1.get? b = some o → h2.get? b = some o) → h1.objs.size ≤ d → (∃ c, h2.get? d = some (seqObj "list" (List.toArray out) c)) → EachIs R out (bs.mergeSort (dataLe false enc)) → Q (.ref d) { s with heap := h2, toks := tk }) :
    wpAny (model prog w) A (call (.builtin "sorted") [x]) Q E s := by
  refine Calls.call_function_entry kind_sorted plain_sorted entry_sorted (args_sorted1 _) ?_
  unfold Builtin.«sorted»
  refine wpAny_bind (m := checkCount "sorted" 1 1 _) (wpAny_pure ?_)
  refine wpAny_bind (hc _ _ fun vs h1 tk keep e => ?_)
  have hlv : vs.length = bs.length := e.length
  refine wpAny_bind (wpAny_newList ?_ (by rw [hlv]; exact hL))
  have hoL : (h1.push (seqObj "list" vs.toArray 0)).get? h1.objs.size = some (seqObj "list" vs.toArray 0) := Heap.get?_push_size _ rfl
  have old : ∀ b o, s.heap.get? b = some o → b ≠ h1.objs.size ∧ (h1.push (seqObj "list" vs.toArray 0)).get? b = some o := fun b o q => by
    have q1 := keep b o q
    exact ⟨Nat.ne_of_lt (Heap.lt_size q1), Heap.get?_push_of_some _ q1⟩
  show wpAny _ _ _ _ _ { s with heap := h1.push (seqObj "list" vs.toArray 0), toks := tk }
  have er : EachIs (fun v b => ∃ as, Reads (sortingHeap (h1.push (seqObj "list" vs.toArray 0)) h1.objs.size vs) v (enc b) as) vs bs := e.mono fun v b q => by
    obtain ⟨as, r⟩ := hr v b q
    exact ⟨as, PyProof.Rows.Reads.keeps (fun b o z => sortingHeap_old (old b o z).1 (old b o z).2) r⟩
  have S : SortsAt prog w A.in1.in1 { s with heap := sortingHeap (h1.push (seqObj "list" vs.toArray 0)) h1.objs.size vs, toks := tk } (dataKind (sortingHeap (h1.push (seqObj "list" vs.toArray 0)) h1.objs.size vs) (bs.map enc)) vs := by
    have e2 := each_map (R := fun v d => ∃ as, Reads (sortingHeap (h1.push (seqObj "list" vs.toArray 0)) h1.objs.size vs) v d as) enc er
    have hu2 : ∀ d, d ∈ bs.map enc → A.in1.in1.units + d.depth < cLine := bound_map hu
    rcases hk with hk | hk
    · exact SortsAt.data (s := { s with heap := sortingHeap (h1.push (seqObj "list" vs.toArray 0)) h1.objs.size vs, toks := tk }) e2 hal hk hu2
    · exact sortsAt_tups (s := { s with heap := sortingHeap (h1.push (seqObj "list" vs.toArray 0)) h1.objs.size vs, toks := tk }) e2 hal hk hu2
  refine wpAny_bind (wpAny_holding (wpAny_call_entry slot_list_sort ⟨_, hoL, rfl⟩ entry_list_sort (list_sort_vals (s := { s with heap := h1.push (seqObj "list" vs.toArray 0), toks := tk }) hoL S (by rw [hlv]; exact hL) ⟨_, rfl, ?_⟩) (args_list_sort _)))
  refine wpAny_pure ⟨_, rfl, ?_⟩
  refine h _ h1.objs.size h1 _ tk keep (fun b o q => ?_) (Nat.le_refl _) (PyProof.Rows.sortedHeap_at (vs := vs) (out := (List.toArray _)) hoL) (sortVals_data false e er hal)
  have q2 : (h1.push (seqObj "list" vs.toArray 0)).get? b = some o := Heap.get?_push_of_some _ q
  rw [PyProof.Rows.sortedHeap_old (Nat.ne_of_lt (Heap.lt_size q)) (Heap.lt_size q2)]
  exact q2
end
/-! ### data -/
def D.le (x y : D) : Bool := !D.lt y x
def sortD (xs : List D) : List D := xs.mergeSort D.le
/-- these can be sorted -/
structure SortOk (xs : List D) : Prop where
  len : xs.length ≤ sizeLine
  pl : ∀ x ∈ xs, x.pl 50 = true
  al : ∀ x ∈ xs, ∀ y ∈ xs, PySem.W.alike x.py y.py = true
  kd : (∀ x ∈ xs, ∃ ys, x = .tup ys) ∨ ∀ x ∈ xs, x ≠ .non ∧ (∀ ys, x ≠ .tup ys) ∧ ∀ ys, x ≠ .con ys
theorem SortOk.kind {xs : List D} (h : SortOk xs) : PySem.W.Sortable (xs.map D.py) ∨ ∀ d, d ∈ xs.map D.py → ∃ ys, d = .tuple ys := by
  rcases h.kd with k | k
  · refine .inr fun d hd => ?_
    obtain ⟨x, hx, rfl⟩ := List.mem_map.mp hd
    obtain ⟨ys, rfl⟩ := k x hx
    exact ⟨D.pys ys, by simp [D.py]⟩
  · refine .inl (.inr fun d hd => ?_)
    obtain ⟨x, hx, rfl⟩ := List.mem_map.mp hd
    have hp := h.pl x hx
    obtain ⟨k1, k2, k3⟩ := k x hx
    cases x with
    | non => exact absurd rfl k1
    | tup ys => exact absurd rfl (k2 ys)
    | obj _ => simp [D.pl] at hp
    | dct _ _ => simp [D.pl] at hp
    | con ys => exact absurd rfl (k3 ys)
    | bl b => exact ⟨by simp [D.py], by simp [D.py]⟩
    | int b => exact ⟨by simp [D.py], by simp [D.py]⟩
    | str b => exact ⟨by simp [D.py], by simp [D.py]⟩
    | lst b => exact ⟨by simp [D.py], by simp [D.py]⟩
theorem SortOk.alike {xs : List D} (h : SortOk xs) : PySem.W.AllAlike (xs.map D.py) := by
  intro d hd d' hd'
  obtain ⟨x, hx, rfl⟩ := List.mem_map.mp hd
  obtain ⟨y, hy, rfl⟩ := List.mem_map.mp hd'
  exact h.al x hx y hy
/-- the value stands for the data -/
def IsD0 (K : PySem.W.Frag) (G : Hp) (v : Value) (d : D) : Prop := ∃ x : V, RelV x v ∧ Rep K G d x
theorem each_rep {K : PySem.W.Frag} {G : Hp} : ∀ {vs : List Value} {ds : List D}, PySem.W.EachIs (IsD0 K G) vs ds → ∃ xs : List V, Vals xs vs ∧ RepL K G ds xs
  | _, _, .nil => ⟨[], .nil, rfl⟩
  | _, _, .cons ⟨x, r, h⟩ t => by
    obtain ⟨xs, r2, h2⟩ := each_rep t
    exact ⟨x :: xs, .cons r r2, x, xs, rfl, h, h2⟩
theorem rep_each {K : PySem.W.Frag} {G : Hp} : ∀ {ds : List D} {xs : List V} {vs : List Value}, RepL K G ds xs → Vals xs vs → PySem.W.EachIs (IsD0 K G) vs ds
  | [], xs, vs, h, r => by
    have h : xs = [] := h
    subst h
    cases r
    exact .nil
  | d :: ds, xs, vs, ⟨x, xr, e, h1, h2⟩, r => by
    subst e
    cases r with
    | cons a b => exact .cons ⟨x, a, h1⟩ (rep_each h2 b)
/-- sorted(x): x's items (what is walked) stand for ds in a part G of the heap -/
def rSortSrc (K : PySem.W.Frag) (Src : Hp → Addr → List D → Hp → Prop) : List V → Hp → VK → Prop := fun xs H Q => ∃ (a : Addr) (ds : List D), xs = [V.ref a] ∧ SortOk ds ∧
  ∀ G, Src H a ds G → ∀ p ys, H p = none → RepL K G (sortD ds) ys → Q (.ref p) (upd H p (.lst ys))
section
variable {X : Cx} {W : WX}
/-- what can be collected from a -/
def CollOk (X : Cx) (pins : List (Addr × Obj)) (σ : L2.St) (H : Hp) (s : Shared) (a : Addr) (ds : List D) (G : Hp) : Prop :=
  Sub G H ∧ ∀ (E' : Value → Shared → Prop) (Q' : List Value → Shared → Prop), (∀ vs h1 tk, (∀ b o, s.heap.get? b = some o → h1.get? b = some o) → PySem.W.EachIs (IsD0 X.K G) vs ds → Q' vs { s with heap := h1, toks := tk }) → wpAny (model X.prog X.w) X.A.in1 (collect (.ref a)) Q' E' s
theorem isd_reads {pins : List (Addr × Obj)} {σ : L2.St} {H : Hp} {s : Shared} (I : Inv X pins σ H s) {G : Hp} (sg : Sub G H) {v : Value} {d : D} (hp : d.pl 50 = true) (h : IsD0 X.K G v d) : ∃ as, Reads s.heap v d.py as := by
  obtain ⟨x, r, h⟩ := h
  exact Dp.reads I d.py x v (Rep.dp d 50 x hp (h.mono sg)) r
theorem sort_rule {pins : List (Addr × Obj)} {σ : L2.St} {H : Hp} {s : Shared} {a : Addr} {ds : List D} {G : Hp} {Q : VK} (hu : X.A.units + 64 < cLine) (I : Inv X pins σ H s) (hc : CollOk X pins σ H s a ds G) (ok : SortOk ds)
    (q : ∀ p ys, H p = none → RepL X.K G (sortD ds) ys → Q (.ref p) (upd H p (.lst ys))) : wpAny (model X.prog X.w) X.A (call (.builtin "sorted") [.ref a]) (EP X pins σ Q) X.xe s := by
  obtain ⟨sg, hc⟩ := hc
  have key : ∀ v d, (IsD0 X.K G v d ∧ d ∈ ds) → ∃ as, Reads s.heap v d.py as := fun v d h => isd_reads I sg (ok.pl d h.2) h.1
  refine sorted_gen (R := fun v d => IsD0 X.K G v d ∧ d ∈ ds) (enc := D.py) (bs := ds) (fun E' Q' hq => hc E' Q' fun vs h1 tk k e => hq vs h1 tk k (PySem.W.each_mem e)) key ok.alike ok.kind ok.len (fun b hb => ?_) fun out d h1 h2 tk keep keep2 hd hat e => ?_
  · have := (py_can b 50 (ok.pl b hb)).2
    omega
  · obtain ⟨ys, r1, r2⟩ := each_rep (e.mono fun v d z => z.1)
    obtain ⟨c, hat⟩ := hat
    have hlen : ys.length ≤ sizeLine := by
      rw [r2.length, List.length_mergeSort]
      exact ok.len
    exact ⟨.ref d, upd H d (.lst ys), (I.kept (t' := tk) keep).laid (t' := tk) keep2 hd ⟨hlen, out, c, r1, hat⟩, rfl, q d ys ((I.kept (t' := tk) keep).hok.fresh hd) r2⟩
/-- lists, tuples -/
def SrcSeq (K : PySem.W.Frag) (H : Hp) (a : Addr) (ds : List D) (G : Hp) : Prop := Sub G H ∧ ∃ vs, (SqL K H a vs ∨ SqT K H a vs) ∧ RepL K G ds vs
theorem coll_seq {pins : List (Addr × Obj)} {σ : L2.St} {H : Hp} {s : Shared} {a : Addr} {ds : List D} {G : Hp} (I : Inv X pins σ H s) (h : SrcSeq X.K H a ds G) : CollOk X pins σ H s a ds G := by
  obtain ⟨sg, vs, h1, h2⟩ := h
  refine ⟨sg, fun E' Q' hq => ?_⟩
  rcases h1 with h1 | h1
  · obtain ⟨its, rv, p, hz⟩ := I.list h1
    refine collect_list p.isList (hq its _ _ (fun b o e => ?_) (rep_each h2 rv)) (by rw [← rv.length]; exact hz)
    rw [Heap.get?_update_ne _ _ _ _ (Nat.ne_of_lt (Heap.lt_size e))]
    exact Heap.get?_push_of_some _ e
  · obtain ⟨its, rv, p, hz⟩ := I.tuple h1
    refine collect_tup p (hq its _ _ (fun b o e => ?_) (rep_each h2 rv)) (by rw [← rv.length]; exact hz)
    rw [Heap.get?_update_ne _ _ _ _ (Nat.ne_of_lt (Heap.lt_size e))]
    exact Heap.get?_push_of_some _ e
/-- dicts of numbers and texts -/
theorem coll_dK {pins : List (Addr × Obj)} {σ : L2.St} {H : Hp} {s : Shared} {a : Addr} {kvs : List (Key × V)} {G : Hp} (hcalm : X.calm = true) (I : Inv X pins σ H s) (sg : Sub G H) (hd : Rd H a (.dK kvs)) : CollOk X pins σ H s a (kvs.map fun p => keyD p.1) G := by
  refine ⟨sg, fun E' Q' hq => ?_⟩
  obtain ⟨z, lo, vs, rel, dd⟩ := dk_rd I.hok hd
  obtain ⟨ep, hat⟩ := dd.dictAt
  have hl : vs.length = kvs.length := by
    have e := congrArg List.length rel.keys
    rw [List.length_map, List.length_map] at e
    exact e.symm
  refine PySem.W.kdu_collect (A := X.A.in1) (PySem.W.kdl_dict (knd := mixKind X.prog X.w) (kvs := vs) (ep := ep) lo) (I.ok.hd hcalm) hat (by rw [hl]; exact z) fun h' tk acc hk hacc => ?_
  refine hq _ _ _ hk ?_
  have hal : acc.toList.length = kvs.length := by rw [Array.length_toList, hacc.1, hl]
  have e1 : (kvs.map fun p => keyD p.1) = (kvs.map (·.1)).map keyD := by rw [List.map_map]; rfl
  rw [e1, rel.keys]
  refine rep_each (xs := (vs.map (·.1)).map kV) ?_ (vals_of_at (by rw [List.length_map, List.length_map, hal, hl]) fun j x w h1 h2 => ?_)
  · generalize vs.map (·.1) = ks
    induction ks with
    | nil => rfl
    | cons k ks ih => exact ⟨kV k, ks.map kV, rfl, by cases k <;> rfl, ih⟩
  · obtain ⟨k, y, hky, hi⟩ := hacc.2 j w (by rw [← Array.getElem?_toList]; exact h2)
    rw [List.getElem?_map, List.getElem?_map, hky] at h1
    cases h1
    exact keyIs_rel hi
/-- dicts of tuples -/
theorem coll_dT {pins : List (Addr × Obj)} {σ : L2.St} {H : Hp} {s : Shared} {a : Addr} {kvs : List (List Key × V)} (hcalm : X.calm = true) (I : Inv X pins σ H s) (hd : Rd H a (.dT kvs)) :
    ∃ bs : List Addr, (∀ b ∈ bs, ∃ vs, H b = some (.tup vs)) ∧ ∀ G, Sub G H → (∀ b ∈ bs, G b = H b) → CollOk X pins σ H s a (kvs.map fun p => keyT p.1) G := by
  obtain ⟨z, hs, ks, pr, o, es, ep, ho, hx, hdt, he, hn⟩ := (show ObjOk X.prog X.w H s.heap a (.dT kvs) from hd.ok I.hok)
  have l1 : es.size = ks.length := size_of_entries he
  have l2 : kvs.length = ks.length := Paired.length pr
  have ik := isKeys_of pr
  refine ⟨ks.map fun x => x.2.1, ?_, fun G sg hG => ⟨sg, fun E' Q' hq => ?_⟩⟩
  · intro b hb
    unfold IsKeys at ik
    have : ∀ {l : List (List Key × V)} {m : List Addr}, Paired (fun p b => H b = some (.tup (p.1.map kV))) l m → ∀ b ∈ m, ∃ vs, H b = some (.tup vs) := by
      intro l m q
      induction q with
      | nil => intro b hb; cases hb
      | cons h t ih =>
        intro b hb
        rcases List.mem_cons.mp hb with e | hb
        · subst e; exact ⟨_, h⟩
        · exact ih b hb
    exact this ik b hb
  · refine PySem.W.kdu_collect (A := X.A.in1) (kdl_raw hs hx hdt) (I.ok.hd hcalm) ho (by omega) fun h' tk acc' kp it => ?_
    refine hq _ _ _ kp ?_
    have ea : acc'.toList = ks.map fun x => Value.ref x.2.1 := by
      have hl : acc'.toList.length = ks.length := by rw [Array.length_toList, it.1]; exact l1
      apply List.ext_getElem?
      intro j
      rw [List.getElem?_map]
      cases hj : acc'.toList[j]? with
      | none =>
        have h1 := List.getElem?_eq_none_iff.mp hj
        rw [List.getElem?_eq_none (by omega)]
        all_goals rfl
      | some v =>
        obtain ⟨en, hen, hv⟩ := it.2 j v (by rw [← Array.getElem?_toList]; exact hj)
        have qe := entry_at he j
        rw [hen] at qe
        cases hb : ks[j]? with
        | none =>
          rw [hb] at qe
          exact nomatch (show some en = none from qe)
        | some b =>
          rw [hb] at qe
          have e2 : en = entryOfKey (tupleKind (mixKind X.prog X.w)) b := Option.some.inj qe
          rw [hv, e2]
          rfl
    rw [ea]
    have gen : ∀ {l : List (List Key × V)} {m : List (List Key × Addr × Value)}, Paired (fun p b => H b = some (.tup (p.1.map kV))) l (m.map fun x => x.2.1) → (∀ x ∈ m, G x.2.1 = H x.2.1) → RepL X.K G (l.map fun p => keyT p.1) (m.map fun x => V.ref x.2.1) := by
      intro l
      induction l with
      | nil => intro m q _; cases m with
        | nil => rfl
        | cons x m => cases q
      | cons p l ih =>
        intro m q hm
        cases m with
        | nil => cases q
        | cons x m =>
          cases q with
          | cons h t =>
            refine ⟨V.ref x.2.1, m.map fun x => V.ref x.2.1, rfl, ⟨x.2.1, p.1.map kV, rfl, ?_, ?_⟩, ih t fun y hy => hm y (List.mem_cons_of_mem _ hy)⟩
            · rw [hm x List.mem_cons_self]; exact h
            · generalize p.1 = ks'
              induction ks' with
              | nil => rfl
              | cons k ks' ih => exact ⟨kV k, ks'.map kV, rfl, by cases k <;> rfl, ih⟩
    refine rep_each (gen ik fun x hx => hG _ (List.mem_map.mpr ⟨x, hx, rfl⟩)) ?_
    have e3 : (ks.map fun x => V.ref x.2.1) = (ks.map fun x => x.2.1).map V.ref := by rw [List.map_map]; rfl
    have e4 : (ks.map fun x => Value.ref x.2.1) = (ks.map fun x => x.2.1).map Value.ref := by rw [List.map_map]; rfl
    rw [e3, e4]
    exact vals_refs _
/-- what a walk over the data yields -/
def D.items : D → Option (List D)
  | .lst xs => some xs
  | .tup xs => some xs
  | .dct _ kvs => some (kvs.map (·.1))
  | _ => none
open Classical in
noncomputable def dSorted : D → Res D := fun d => match d.items with
  | some xs => if SortOk xs then .ok (.lst (sortD xs)) else .bad
  | none => .bad
def rSorted0 (X : Cx) : List V → Hp → VK → Prop := fun xs H Q => ∃ (a : Addr) (ds : List D), xs = [V.ref a] ∧ SortOk ds ∧
  ((∃ G, SrcSeq X.K H a ds G ∧ ∀ p ys, H p = none → RepL X.K G (sortD ds) ys → Q (.ref p) (upd H p (.lst ys))) ∨
   (∃ kvs, Rd H a (.dK kvs) ∧ ds = kvs.map (fun p => keyD p.1) ∧ ∃ G, Sub G H ∧ ∀ p ys, H p = none → RepL X.K G (sortD ds) ys → Q (.ref p) (upd H p (.lst ys))) ∨
   (∃ kvs, Rd H a (.dT kvs) ∧ ds = kvs.map (fun p => keyT p.1) ∧ ∀ (bs : List Addr) G, (∀ b ∈ bs, ∃ vs, H b = some (.tup vs)) → Sub G H → (∀ b o, G b = some o → b ∈ bs) → ∀ p ys, H p = none → RepL X.K G (sortD ds) ys → Q (.ref p) (upd H p (.lst ys))))
open Classical in
theorem cr_sorted0 (hcalm : X.calm = true) (hu : X.A.units + 64 < cLine) : CallR X (.builtin "sorted") (rSorted0 X) := by
  intro pins s σ H xs us Q I r h
  obtain ⟨a, ds, rfl, ok, h⟩ := h
  obtain ⟨u, rfl, ru⟩ := vals1 r
  obtain rfl : u = Value.ref a := ru
  rcases h with ⟨G, h1, q⟩ | ⟨kvs, h1, rfl, G, sg, q⟩ | ⟨kvs, h1, rfl, q⟩
  · exact sort_rule hu I (coll_seq I h1) ok q
  · exact sort_rule hu I (coll_dK hcalm I sg h1) ok q
  · obtain ⟨bs, b1, b2⟩ := coll_dT hcalm I h1
    have hG : Sub (fun b => if b ∈ bs then H b else none) H := fun b o e => by
      dsimp only at e
      split at e
      · exact e
      · cases e
    refine sort_rule hu I (b2 (fun b => if b ∈ bs then H b else none) hG fun b hb => if_pos hb) ok (q bs _ b1 hG fun b o e => ?_)
    split at e
    · assumption
    · cases e
open Classical in
theorem c1_sorted (hcalm : X.calm = true) (hu : X.A.units + 64 < cLine) : Call1F X W (.builtin "sorted") dSorted := by
  refine ⟨_, cr_sorted0 hcalm hu, fun σ H G x dx Q sg rx p => ?_⟩
  unfold dSorted at p
  cases hi : dx.items with
  | none => rw [hi] at p; exact p.elim
  | some ds =>
    rw [hi] at p
    dsimp only at p
    by_cases ok : SortOk ds
    · rw [if_pos ok] at p
      have fin : ∀ G2, Ext H G H G2 → ∀ q ys, H q = none → RepL X.K G2 (sortD ds) ys → Q (.ref q) (upd H q (.lst ys)) := fun G2 x2 q ys hq r =>
        p (upd H q (.lst ys)) G2 ⟨x2.hh.trans (Sub.upd hq), x2.gg, x2.gh.trans (Sub.upd hq), x2.new⟩ q hq (x2.gh.free hq) ⟨ys, upd_same, r⟩
      cases dx with
      | lst xs =>
        cases hi
        obtain ⟨a, vs, rfl, s, r⟩ := rx
        exact ⟨a, _, rfl, ok, .inl ⟨G, ⟨sg, vs, .inl s, r⟩, fin G (Ext.refl sg)⟩⟩
      | tup xs =>
        cases hi
        obtain ⟨a, vs, rfl, s, r⟩ := (show Rep X.K G (.tup _) x from rx)
        exact ⟨a, _, rfl, ok, .inl ⟨G, ⟨sg, vs, .inr (sg.pt s), r⟩, fin G (Ext.refl sg)⟩⟩
      | dct t kvs =>
        cases hi
        obtain ⟨a, rfl, h⟩ := rx
        rcases h with ⟨t0, ps, s, hkeys, rv⟩ | ⟨t0, ps, s, hkeys, rv⟩
        · exact ⟨a, _, rfl, ok, .inr (.inl ⟨ps, s, hkeys, G, sg, fin G (Ext.refl sg)⟩)⟩
        · refine ⟨a, _, rfl, ok, .inr (.inr ⟨ps, s, hkeys, fun bs G1 hb sg1 hG1 q ys hq r => ?_⟩)⟩
          have s2 : Sub G (fun b => if b ∈ bs then H b else G b) := fun b o e => by
            dsimp only
            by_cases hbb : b ∈ bs
            · rw [if_pos hbb]; exact sg _ _ e
            · rw [if_neg hbb]; exact e
          have s3 : Sub G1 (fun b => if b ∈ bs then H b else G b) := fun b o e => by
            dsimp only
            rw [if_pos (hG1 b o e)]; exact sg1 _ _ e
          have s4 : Sub (fun b => if b ∈ bs then H b else G b) H := fun b o e => by
            dsimp only at e
            by_cases hbb : b ∈ bs
            · rw [if_pos hbb] at e; exact e
            · rw [if_neg hbb] at e; exact sg _ _ e
          refine fin _ ⟨Sub.refl H, s2, s4, fun b e => ?_⟩ q ys hq (r.mono s3)
          by_cases hbb : b ∈ bs
          · exact .inr (.inr (hb b hbb))
          · rw [if_neg hbb] at e; exact .inl e
      | _ => cases hi
    · rw [if_neg ok] at p; exact p.elim
end
end DL

/-! rules that look at the data: index, in, is, slices with a step, methods -/
namespace DL
open PySem PySem.Spec PyProof.Rows L2
open PySem.Builtin.Int (intBits)
section
variable {X : Cx} {W : WX} {A : Nat → Prop} {a b c ex : Expr} {pos p p1 p2 apos cpos : Pos}
/-- either of two readings, as the data say -/
theorem de_pick {f f1 f2 : DL.Env → Res D} (h1 : DE X W A ex f1) (h2 : DE X W A ex f2) (hf : ∀ e, f e = f1 e ∨ f e = f2 e ∨ f e = .bad) : DE X W A ex f :=
  ⟨fun pins s σ H Q I ⟨e, G, E, q⟩ => by
    rcases hf e with z | z | z
    · rw [z] at q; exact h1.run pins s σ H Q I ⟨e, G, E, q⟩
    · rw [z] at q; exact h2.run pins s σ H Q I ⟨e, G, E, q⟩
    · rw [z] at q; exact q.elim⟩
theorem dt_pick {f f1 f2 : DL.Env → Res Bool} (h1 : DT X W A ex f1) (h2 : DT X W A ex f2) (hf : ∀ e, f e = f1 e ∨ f e = f2 e ∨ f e = .bad) : DT X W A ex f :=
  ⟨fun pins s σ H Q I ⟨e, G, E, q⟩ => by
    rcases hf e with z | z | z
    · rw [z] at q; exact h1.run pins s σ H Q I ⟨e, G, E, q⟩
    · rw [z] at q; exact h2.run pins s σ H Q I ⟨e, G, E, q⟩
    · rw [z] at q; exact q.elim⟩
theorem eOp_pick {g g1 g2 : D → D → Res D} {fa fb : DL.Env → Res D} (h : ∀ x y, g x y = g1 x y ∨ g x y = g2 x y ∨ g x y = .bad) (e : DL.Env) : eOp g fa fb e = eOp g1 fa fb e ∨ eOp g fa fb e = eOp g2 fa fb e ∨ eOp g fa fb e = .bad := by
  unfold eOp
  cases ha : fa e with
  | ok x =>
    cases hb : fb e with
    | ok y => exact h x y
    | exc _ _ => exact .inl rfl
    | bad => exact .inl rfl
  | exc _ _ => exact .inl rfl
  | bad => exact .inl rfl
theorem bTest_pick {g g1 g2 : D → D → Res D} {fa fb : DL.Env → Res D} (h : ∀ x y, g x y = g1 x y ∨ g x y = g2 x y ∨ g x y = .bad) (e : DL.Env) : bTest g fa fb e = bTest g1 fa fb e ∨ bTest g fa fb e = bTest g2 fa fb e ∨ bTest g fa fb e = .bad := by
  unfold bTest
  cases ha : fa e with
  | ok x =>
    cases hb : fb e with
    | ok y =>
      rcases h x y with z | z | z
      · exact .inl (by simp only [Res.bind_ok, z])
      · exact .inr (.inl (by simp only [Res.bind_ok, z]))
      · exact .inr (.inr (by simp only [Res.bind_ok, z, Res.bind_bad]))
    | exc _ _ => exact .inl rfl
    | bad => exact .inl rfl
  | exc _ _ => exact .inl rfl
  | bad => exact .inl rfl
/-! ### x[k] of any kind -/
noncomputable def dIxA (x y : D) : Res D := match x with
  | .dct t kvs => dAt (.dct t kvs) y
  | x => dIx x y
theorem de_ixA {fa fb : DL.Env → Res D} (hu : X.A.units + 1 < cLine) (ha : DR X W A a fa) (hb : DE X W A b fb) (hs : NoSl b) (hs2 : PlainIx b) : DE X W A (.Subscript a b pos) (eOp dIxA fa fb) :=
  de_pick (de_dix hu ha hb hs) (de_ix ha (dr hb) hs2) (eOp_pick fun x y => by cases x <;> first | exact .inl rfl | exact .inr (.inl rfl))
/-! ### is -/
def dIs : D → D → Res D
  | .bl a, .bl b => .ok (.bl (decide (a = b)))
  | .obj _, .non => .bad
  | .non, .non => .ok (.bl true)
  | _, .non => .ok (.bl false)
  | _, _ => .bad
def dIsNot (x y : D) : Res D := (dIs x y).bind fun z => match z with
  | .bl k => .ok (.bl (!k))
  | _ => .bad
theorem non_rep {K : PySem.W.Frag} {H G : Hp} {d : D} {v : V} (h : ∀ u, d ≠ .obj u) (r : RepC K H G d v) : decide (v = .non) = (match d with | .non => true | _ => false) := by
  cases d with
  | non => exact decide_eq_true r
  | bl b => exact decide_eq_false (by rw [show v = _ from r]; simp)
  | int b => exact decide_eq_false (by rw [show v = _ from r]; simp)
  | str b => exact decide_eq_false (by rw [show v = _ from r]; simp)
  | obj u => exact absurd rfl (h u)
  | tup _ => obtain ⟨a, vs, e, _⟩ := (show Rep K G (.tup _) v from r); subst e; rfl
  | con _ => obtain ⟨a, vs, e, _⟩ := (show Rep K G (.con _) v from r); subst e; rfl
  | lst _ => obtain ⟨a, vs, e, _⟩ := r; subst e; rfl
  | dct _ _ => obtain ⟨a, e, _⟩ := r; subst e; rfl
theorem od_is : OpD X W (compareOp .Is) dIs := by
  refine ⟨_, OpR.or op_isBl op_isN, fun σ H G x y dx dy Q sg rx ry p => ?_⟩
  cases dy with
  | bl b =>
    cases dx with
    | bl a => exact .inl ⟨a, b, rx, ry, PostG.val (d := .bl (decide (a = b))) p sg rfl⟩
    | _ => exact (show False from p).elim
  | non =>
    have hy : y = .non := ry
    refine .inr ⟨hy, ?_⟩
    by_cases ho : ∃ u, dx = .obj u
    · obtain ⟨u, rfl⟩ := ho
      exact (show False from p).elim
    · rw [non_rep (fun u z => ho ⟨u, z⟩) rx]
      cases dx with
      | obj u => exact absurd ⟨u, rfl⟩ ho
      | non => exact PostG.val (d := .bl true) p sg rfl
      | _ => exact PostG.val (d := .bl false) p sg rfl
  | _ => cases dx <;> exact (show False from p).elim
theorem od_isNot : OpD X W (compareOp .IsNot) dIsNot := by
  refine ⟨_, OpR.or op_notBl op_notN, fun σ H G x y dx dy Q sg rx ry p => ?_⟩
  cases dy with
  | bl b =>
    cases dx with
    | bl a => exact .inl ⟨a, b, rx, ry, PostG.val (d := .bl (!decide (a = b))) p sg rfl⟩
    | _ => exact (show False from p).elim
  | non =>
    have hy : y = .non := ry
    refine .inr ⟨hy, ?_⟩
    by_cases ho : ∃ u, dx = .obj u
    · obtain ⟨u, rfl⟩ := ho
      exact (show False from p).elim
    · rw [non_rep (fun u z => ho ⟨u, z⟩) rx]
      cases dx with
      | obj u => exact absurd ⟨u, rfl⟩ ho
      | non => exact PostG.val (d := .bl false) p sg rfl
      | _ => exact PostG.val (d := .bl true) p sg rfl
  | _ => cases dx <;> exact (show False from p).elim
/-! ### in, of lists, tuples and texts -/
def D.has (xs : List D) (k : D) : Bool := xs.any fun z => D.beq z k
def strIn (k s : Str) : Bool := !(Builtin.Str.occurrences s k 0 s.length 1).isEmpty
def dInS (no : Bool) : D → D → Res D := fun k c => match c with
  | .lst xs => if k.pl 50 = true ∧ D.pls xs 50 = true then .ok (.bl (D.has xs k != no)) else .bad
  | .tup xs => if k.pl 50 = true ∧ D.pls xs 50 = true then .ok (.bl (D.has xs k != no)) else .bad
  | .con xs => if k.pl 50 = true ∧ D.pls xs 50 = true then .ok (.bl (D.has xs k != no)) else .bad
  | .str s => match k with
    | .str k => .ok (.bl (strIn k s != no))
    | _ => .bad
  | _ => .bad
def rInT (K : PySem.W.Frag) (no : Bool) : R2 := fun x y H Q => ∃ d ds, Dp K H x d ∧ Dp K H y (.tuple ds) ∧ SeqAt.shaped d = true ∧ SeqAt.shaped (.tuple ds) = true ∧ Q (.bl ((ds.any fun z => PyData.eqv z d) != no)) H
theorem op_inT (hu : X.A.units + 65 < cLine) : OpR X (compareOp .In) (rInT X.K false) := by
  intro pins s σ H x y v u Q I rx ry h
  obtain ⟨d, ds, hd, he, sd, se, q⟩ := h
  obtain ⟨as, r1⟩ := Dp.reads I d x v hd rx
  obtain ⟨bs, r2⟩ := Dp.reads I (.tuple ds) y u he ry
  rw [Bool.bne_false] at q
  exact SeqAt.in_tuple_reads r2 r1 (SeqAt.canLay_of_shaped se) (SeqAt.canLay_of_shaped sd) (room_in_shaped sd hu) ⟨.bl _, H, I, rfl, q⟩
theorem op_notInT (hu : X.A.units + 65 < cLine) : OpR X (compareOp .NotIn) (rInT X.K true) := by
  intro pins s σ H x y v u Q I rx ry h
  obtain ⟨d, ds, hd, he, sd, se, q⟩ := h
  obtain ⟨as, r1⟩ := Dp.reads I d x v hd rx
  obtain ⟨bs, r2⟩ := Dp.reads I (.tuple ds) y u he ry
  rw [Bool.bne_true] at q
  exact SeqAt.notIn_tuple_reads r2 r1 (SeqAt.canLay_of_shaped se) (SeqAt.canLay_of_shaped sd) (room_in_shaped sd hu) ⟨.bl _, H, I, rfl, q⟩
theorem any_pys (k : D) : ∀ xs : List D, ((D.pys xs).any fun z => PyData.eqv z k.py) = D.has xs k
  | [] => rfl
  | x :: xs => by
    unfold D.has
    rw [D.pys, List.any_cons, List.any_cons, any_pys k xs]
    rfl
theorem shaped_pyL {xs : List D} (h : D.pls xs 50 = true) : SeqAt.shaped (.list (D.pys xs)) = true := by
  have := shaped_py (d := .lst xs) (n := 51) (by simpa [D.pl] using h) (by decide)
  simpa [D.py] using this
theorem shaped_pyT {xs : List D} (h : D.pls xs 50 = true) : SeqAt.shaped (.tuple (D.pys xs)) = true := by
  have := shaped_py (d := .tup xs) (n := 51) (by simpa [D.pl] using h) (by decide)
  simpa [D.py] using this
theorem od_inS_gen {op : CmpOp} (no : Bool) (o1 : OpR X (compareOp op) fun x y H Q => ∃ d ds, Dp X.K H x d ∧ Dp X.K H y (.list ds) ∧ SeqAt.shaped d = true ∧ SeqAt.shaped (.list ds) = true ∧ Q (.bl ((ds.any fun z => PyData.eqv z d) != no)) H)
    (o2 : OpR X (compareOp op) (rInT X.K no)) (o3 : OpR X (compareOp op) fun x y H Q => ∃ i j, x = .str i ∧ y = .str j ∧ Q (.bl (strIn i j != no)) H) : OpD X W (compareOp op) (dInS no) := by
  refine ⟨_, OpR.or o1 (OpR.or o2 o3), fun σ H G x y dk dc Q sg rx ry p => ?_⟩
  cases dc with
  | lst xs =>
    dsimp only [dInS] at p
    by_cases hc : dk.pl 50 = true ∧ D.pls xs 50 = true
    · rw [if_pos hc] at p
      refine .inl ⟨dk.py, D.pys xs, Rep.dp dk 50 x hc.1 (rx.all sg), ?_, shaped_py hc.1 (by decide), shaped_pyL hc.2, ?_⟩
      · obtain ⟨a, vs, rfl, s, r⟩ := ry
        exact .lst s (RepL.dp xs 50 vs hc.2 (r.mono sg))
      · rw [any_pys]; exact p.val sg rfl
    · rw [if_neg hc] at p; exact p.elim
  | tup xs =>
    dsimp only [dInS] at p
    by_cases hc : dk.pl 50 = true ∧ D.pls xs 50 = true
    · rw [if_pos hc] at p
      refine .inr (.inl ⟨dk.py, D.pys xs, Rep.dp dk 50 x hc.1 (rx.all sg), ?_, shaped_py hc.1 (by decide), shaped_pyT hc.2, ?_⟩)
      · obtain ⟨a, vs, rfl, s, r⟩ := (show Rep X.K G (.tup xs) y from ry)
        exact .tup (sg.pt s) (RepL.dp xs 50 vs hc.2 (r.mono sg))
      · rw [any_pys]; exact p.val sg rfl
    · rw [if_neg hc] at p; exact p.elim
  | con xs =>
    dsimp only [dInS] at p
    by_cases hc : dk.pl 50 = true ∧ D.pls xs 50 = true
    · rw [if_pos hc] at p
      refine .inr (.inl ⟨dk.py, D.pys xs, Rep.dp dk 50 x hc.1 (rx.all sg), ?_, shaped_py hc.1 (by decide), shaped_pyT hc.2, ?_⟩)
      · obtain ⟨a, vs, rfl, s, r⟩ := (show Rep X.K G (.con xs) y from ry)
        exact .tup (sg.sqt s) (RepL.dp xs 50 vs hc.2 (r.mono sg))
      · rw [any_pys]; exact p.val sg rfl
    · rw [if_neg hc] at p; exact p.elim
  | str s =>
    cases dk with
    | str k => exact .inr (.inr ⟨k, s, rx, ry, PostG.val (d := .bl (strIn k s != no)) p sg rfl⟩)
    | _ => exact (show False from p).elim
  | _ => exact (show False from p).elim
theorem od_inS (hu : X.A.units + 65 < cLine) : OpD X W (compareOp .In) (dInS false) :=
  od_inS_gen false (by
    have h := op_inD (X := X) hu
    unfold rInD at h
    simpa only [Bool.bne_false] using h) (op_inT hu) (by
    have h := op_in_str (X := X)
    unfold strIn
    simpa only [Bool.bne_false] using h)
theorem od_notInS (hu : X.A.units + 65 < cLine) : OpD X W (compareOp .NotIn) (dInS true) :=
  od_inS_gen true (by
    have h := op_notInD (X := X) hu
    unfold rNotInD at h
    simpa only [Bool.bne_true] using h) (op_notInT hu) (by
    have h := op_notin_str (X := X)
    unfold strIn
    simpa only [Bool.bne_true] using h)
noncomputable def dInA (no : Bool) (k c : D) : Res D := match c with
  | .dct t kvs => dIn no k (.dct t kvs)
  | c => dInS no k c
theorem inA_pick (no : Bool) (x y : D) : dInA no x y = dIn no x y ∨ dInA no x y = dInS no x y ∨ dInA no x y = .bad := by
  cases y <;> first | exact .inl rfl | exact .inr (.inl rfl)
theorem de_inA {fa fb : DL.Env → Res D} (hu : X.A.units + 65 < cLine) (ha : DE X W A a fa) (hb : DR X W A b fb) (hm : behindInMarks .In b = false := by rfl) : DE X W A (.Compare a [.In] [b] pos) (eOp (dInA false) fa fb) :=
  de_pick (de_din (by omega) ha hb hm) (de_cmp (od_inS hu) (dr ha) hb hm) (eOp_pick (inA_pick false))
theorem de_notInA {fa fb : DL.Env → Res D} (hu : X.A.units + 65 < cLine) (ha : DE X W A a fa) (hb : DR X W A b fb) (hm : behindInMarks .NotIn b = false := by rfl) : DE X W A (.Compare a [.NotIn] [b] pos) (eOp (dInA true) fa fb) :=
  de_pick (de_dnotin (by omega) ha hb hm) (de_cmp (od_notInS hu) (dr ha) hb hm) (eOp_pick (inA_pick true))
theorem dt_inA {fa fb : DL.Env → Res D} (hu : X.A.units + 65 < cLine) (ha : DE X W A a fa) (hb : DR X W A b fb) (hm : behindInMarks .In b = false := by rfl) : DT X W A (.Compare a [.In] [b] pos) (bTest (dInA false) fa fb) :=
  dt_pick (dt_din (by omega) ha hb hm) (dt_cmp (od_inS hu) (dr ha) hb hm) (bTest_pick (inA_pick false))
theorem dt_notInA {fa fb : DL.Env → Res D} (hu : X.A.units + 65 < cLine) (ha : DE X W A a fa) (hb : DR X W A b fb) (hm : behindInMarks .NotIn b = false := by rfl) : DT X W A (.Compare a [.NotIn] [b] pos) (bTest (dInA true) fa fb) :=
  dt_pick (dt_dnotin (by omega) ha hb hm) (dt_cmp (od_notInS hu) (dr ha) hb hm) (bTest_pick (inA_pick true))
theorem _root_.L2.Room.hu65 {k : Nat} {A : Around} (h : Room k A) : A.units + 65 < cLine := by have := h.un; omega
end
end DL

/-! methods, lists made, slices with a step -/
namespace DL
open PySem PySem.Spec PyProof.Rows L2
open PySem.Builtin.Int (intBits)
section
variable {X : Cx} {W : WX} {A : Nat → Prop} {a b c ex o e : Expr} {es : List Expr} {pos p p1 p2 p3 apos cpos : Pos} {T id : String} {name : Str}
/-! ### methods of a value that is read -/
def D.ofTy (T : String) : D → Bool
  | .lst _ => T == "list"
  | .str _ => T == "str"
  | .int _ => T == "int"
  | _ => false
def eMeth (T : String) (g : D → List D → Res D) (fo : DL.Env → Res D) (fs : DL.Env → Res (List D)) : DL.Env → Res D := fun e => (fo e).bind fun d => if D.ofTy T d = true then (fs e).bind fun ds => g d ds else .bad
def MethD (X : Cx) (W : WX) (T id : String) (g : D → List D → Res D) : Prop :=
  ∃ r, MtR X id r ∧ ∀ (σ : L2.St) (H G : Hp) (x : V) (vs : List V) (dx : D) (ds : List D) (Q : VK), Sub G H → D.ofTy T dx = true → RepC X.K H G dx x → RepL X.K G ds vs →
    PostG X.K X.mg (fun c o H' => W c o σ H') H G (g dx ds) (fun d H' G' => ∀ v, Rep X.K G' d v → Q v H') → r x vs H Q
theorem ofTy_tyV {K : PySem.W.Frag} {H G : Hp} {d : D} {v : V} (h : D.ofTy T d = true) (r : RepC K H G d v) : tyV K T v H := by
  cases d with
  | lst ds =>
    have : T = "list" := by simpa [D.ofTy] using h
    obtain ⟨a, vs, rfl, s, _⟩ := r
    exact .inl ⟨this, vs, s⟩
  | str z =>
    have : T = "str" := by simpa [D.ofTy] using h
    cases (show v = .str z from r)
    exact this
  | int z =>
    have : T = "int" := by simpa [D.ofTy] using h
    cases (show v = .int z from r)
    exact this
  | _ => cases h
theorem de_meth {g : D → List D → Res D} {fo : DL.Env → Res D} {fs : DL.Env → Res (List D)} (pa : PlainAttrs T) (slot : Slot T name id) (hty : typeOf (.builtin id) = pure (.type "method_descriptor")) (hm : MethD X W T id g) (ho : DR X W A o fo) (ha : DA X W A (e :: es) fs)
    (hbase : attributeBase o name X.env (eval o X.env) = eval o X.env := by rfl)
    (hfew : ((backTo cpos (starEach (e :: es) X.env)).all (fun x => !x.1) && (backToKw cpos (keywordEach [] X.env)).all (fun x => x.1.isSome)
      && decide ((e :: es).length + ([] : List Keyword).length + (if ([] : List Keyword).isEmpty then 0 else 1) < 30)) = true := by rfl)
    (hline : (apos.endLine == cpos.line) = true := by rfl) (hs : starEach (e :: es) X.env = (false, eval e X.env) :: starEach es X.env := by rfl) (hplain : (backTo cpos (starEach es X.env)).any (·.1) = false := by rfl) :
    DE X W A (.Call (.Attribute o name apos) (e :: es) [] cpos) (eMeth T g fo fs) := by
  obtain ⟨r, m1, m2⟩ := hm
  refine (pe_bm pa slot hty m1 ho ha hbase hfew hline hs hplain).imp fun σ H Q ⟨en, G, E, q⟩ => ⟨en, G, E, q.split.imp fun d H1 G1 x1 q1 v rv => ?_⟩
  by_cases hc : D.ofTy T d = true
  · rw [if_pos hc] at q1
    exact ⟨ofTy_tyV hc rv, en, G1, E.ext x1, q1.split.imp fun ds H2 G2 x2 q2 vs rs => m2 σ H2 G2 v vs d ds Q x2.gh hc (rv.mono x2.hh x2.gg) rs q2⟩
  · rw [if_neg hc] at q1; exact q1.elim
theorem de_meth0 {g : D → List D → Res D} {fo : DL.Env → Res D} (pa : PlainAttrs T) (slot : Slot T name id) (hty : typeOf (.builtin id) = pure (.type "method_descriptor")) (hm : MethD X W T id g) (ho : DR X W A o fo)
    (hbase : attributeBase o name X.env (eval o X.env) = eval o X.env := by rfl) (hline : (apos.endLine == cpos.line) = true := by rfl) :
    DE X W A (.Call (.Attribute o name apos) [] [] cpos) (eMeth T g fo aNil) := by
  obtain ⟨r, m1, m2⟩ := hm
  refine (pe_bm0 pa slot hty m1 ho hbase hline).imp fun σ H Q ⟨en, G, E, q⟩ => ⟨en, G, E, q.split.imp fun d H1 G1 x1 q1 v rv => ?_⟩
  by_cases hc : D.ofTy T d = true
  · rw [if_pos hc] at q1
    exact ⟨ofTy_tyV hc rv, m2 σ H1 G1 v [] d [] Q x1.gh hc rv rfl q1⟩
  · rw [if_neg hc] at q1; exact q1.elim
/-- l.index(k) -/
def dIndex : D → List D → Res D := fun l ks => match l, ks with
  | .lst xs, [k] => if k.pl 50 = true ∧ D.pls xs 50 = true then (match xs.findIdx? fun z => D.beq z k with
    | some j => .ok (.int (j : Nat))
    | none => .bad) else .bad
  | _, _ => .bad
theorem pys_get : ∀ {xs : List D} {j : Nat} {x : D}, xs[j]? = some x → (D.pys xs)[j]? = some x.py
  | x :: xs, 0, _, h => by cases h; rfl
  | _ :: xs, j + 1, x, h => by
    have := pys_get (xs := xs) (j := j) (x := x) (by simpa using h)
    simpa [D.pys] using this
theorem pys_get' : ∀ {xs : List D} {j : Nat} {z : PyData}, (D.pys xs)[j]? = some z → ∃ x, xs[j]? = some x ∧ z = x.py
  | [], j, _, h => by simp [D.pys] at h
  | x :: xs, 0, _, h => by simp only [D.pys] at h; cases h; exact ⟨x, rfl, rfl⟩
  | _ :: xs, j + 1, z, h => by
    have := pys_get' (xs := xs) (j := j) (z := z) (by simpa [D.pys] using h)
    simpa using this
theorem pys_length : ∀ xs : List D, (D.pys xs).length = xs.length
  | [] => rfl
  | x :: xs => by rw [D.pys, List.length_cons, List.length_cons, pys_length xs]
theorem meth_index (hu : X.A.units + 65 < cLine) : MethD X W "list" "list.index" dIndex := by
  refine ⟨_, mt_indexD hu, fun σ H G x vs dx ds Q sg ht rx rv q => ?_⟩
  cases dx with
  | lst xs =>
    match ds, q with
    | [k], q =>
      dsimp only [dIndex] at q
      by_cases hc : k.pl 50 = true ∧ D.pls xs 50 = true
      · rw [if_pos hc] at q
        cases hf : xs.findIdx? (fun z => D.beq z k) with
        | none => rw [hf] at q; exact q.elim
        | some j =>
          rw [hf] at q
          obtain ⟨w, _, rfl, rw, e⟩ := rv
          have e : _ = [] := e
          subst e
          obtain ⟨a, us, rfl, s, r⟩ := rx
          obtain ⟨h1, h2, h3⟩ := List.findIdx?_eq_some_iff_getElem.mp hf
          refine ⟨a, w, k.py, D.pys xs, j, xs[j].py, rfl, rfl, .lst s (RepL.dp xs 50 us hc.2 (r.mono sg)), Rep.dp k 50 w hc.1 (rw.mono sg), shaped_pyL hc.2, shaped_py hc.1 (by decide), pys_get (List.getElem?_eq_getElem h1), h2, fun m z' hm hz => ?_, q.val sg rfl⟩
          obtain ⟨y, hy, rfl⟩ := pys_get' hz
          obtain ⟨hml, rfl⟩ := List.getElem?_eq_some_iff.mp hy
          have := h3 m hm
          simpa [D.beq] using this
      · rw [if_neg hc] at q; exact q.elim
  | _ => cases ht
/-! ### l.remove(k), l.insert(i, k) -/
def gRemove : List D → List D → Option (List D) := fun xs ds => match ds with
  | [k] => if k.pl 50 = true ∧ D.pls xs 50 = true then (match xs.findIdx? fun z => D.beq z k with
    | some j => some (xs.eraseIdx j)
    | none => none) else none
  | _ => none
mutual
theorem py_plain : ∀ (d : D) (n : Nat), d.pl n = true → d.py.plain = true
  | .non, n, _ => by simp [D.py, PyData.plain]
  | .bl _, n, _ => by simp [D.py, PyData.plain]
  | .int _, n, _ => by simp [D.py, PyData.plain]
  | .str _, n, _ => by simp [D.py, PyData.plain]
  | .obj _, n, h => by simp [D.pl] at h
  | .dct _ _, n, h => by simp [D.pl] at h
  | .con xs, 0, h => by simp [D.pl] at h
  | .con xs, n + 1, h => by
    simp only [D.py, PyData.plain]
    exact pys_plain xs n (by simpa [D.pl] using h)
  | .tup xs, 0, h => by simp [D.pl] at h
  | .lst xs, 0, h => by simp [D.pl] at h
  | .tup xs, n + 1, h => by
    simp only [D.py, PyData.plain]
    exact pys_plain xs n (by simpa [D.pl] using h)
  | .lst xs, n + 1, h => by
    simp only [D.py, PyData.plain]
    exact pys_plain xs n (by simpa [D.pl] using h)
theorem pys_plain : ∀ (ds : List D) (n : Nat), D.pls ds n = true → PyData.plainAll (D.pys ds) = true
  | [], n, _ => by simp [D.pys, PyData.plainAll]
  | d :: r, n, h => by
    have h' : d.pl n = true ∧ D.pls r n = true := by simpa [D.pls] using h
    simp only [D.pys, PyData.plainAll, py_plain d n h'.1, pys_plain r n h'.2, Bool.and_self]
end
def rRemD (K : PySem.W.Frag) : V → List V → Hp → VK → Prop := fun x xs H Q => ∃ (l : Addr) (vs : List V) (y : V) (d : PyData) (ds : List PyData) (j : Nat), x = .ref l ∧ xs = [y] ∧ H l = some (.lst vs) ∧ DpAll K H vs ds ∧ Dp K H y d ∧
  PyData.plainAll ds = true ∧ d.plain = true ∧ d.depth ≤ 64 ∧ SeqAt.dataPlace ds d = some j ∧ Q .non (upd H l (.lst (vs.eraseIdx j)))
theorem vals_erase {xs : List V} {us : List Value} (h : Vals xs us) : ∀ j, Vals (xs.eraseIdx j) (us.eraseIdx j) := by
  induction h with
  | nil => intro j; exact .nil
  | cons a b ih =>
    intro j
    cases j with
    | zero => exact b
    | succ j => exact .cons a (ih j)
theorem mt_remD (hu : X.A.units + 66 < cLine) : MtM X "list.remove" (rRemD X.K) := by
  intro pins s σ H x xs v us Q I rx rv h
  obtain ⟨l, vs, y, d, ds, j, rfl, rfl, hH, hd, hy, p1, p2, p3, hp, q⟩ := h
  cases rx
  obtain ⟨u, rfl, ru⟩ := rv.one
  obtain ⟨z, its, n, r, hl, e⟩ := I.lstM hH
  obtain ⟨as, ra⟩ := Dp.readsAll I ds vs its hd r
  obtain ⟨bs, rb⟩ := Dp.reads I d y u hy ru
  have hil : s.heap.IsList l its.toArray := ⟨_, e, rfl, _, rfl⟩
  have hlen : its.length = ds.length := SeqAt.ReadsAll.length ds its as ra
  obtain ⟨hj1, _, _⟩ := List.findIdx?_eq_some_iff_getElem.mp hp
  refine SeqAt.remove_list_data (xs := ds) (d := d) (bs := bs) (as := as) hil (by simpa using ra) rb p1 p2 (by have := Nat.min_le_right (PyData.depthAll ds) d.depth; omega) hp (by rw [List.size_toArray]; omega) ?_
  refine ⟨.non, _, I.lset (its' := its.eraseIdx j) (t' := s.toks) hH e ?_ (vals_erase r j) ?_, rfl, q⟩
  · have hja : j < its.toArray.size := by rw [List.size_toArray]; omega
    apply Array.toList_inj.mp
    rw [Array.toList_eraseIdxIfInBounds]
    try simp
  · have := List.length_eraseIdx_le vs j
    omega
theorem repl_erase {K : PySem.W.Frag} {G : Hp} : ∀ {ds : List D} {vs : List V}, RepL K G ds vs → ∀ j, RepL K G (ds.eraseIdx j) (vs.eraseIdx j)
  | [], _, e, j => by rw [show _ = [] from e]; exact rfl
  | d :: ds, _, ⟨v, r, e, x, y⟩, 0 => by rw [e]; exact y
  | d :: ds, _, ⟨v, r, e, x, y⟩, j + 1 => by rw [e]; exact ⟨v, _, rfl, x, repl_erase y j⟩
theorem findIdx_pys (k : D) : ∀ xs : List D, SeqAt.dataPlace (D.pys xs) k.py = xs.findIdx? fun z => D.beq z k := by
  intro xs
  unfold SeqAt.dataPlace
  induction xs with
  | nil => rfl
  | cons x xs ih =>
    rw [D.pys, List.findIdx?_cons, List.findIdx?_cons, ih]
    rfl
theorem mut_remove (hu : X.A.units + 66 < cLine) : MutL X "list.remove" gRemove := by
  refine ⟨_, mt_remD hu, fun G H a xs vs ds ws xs' Q sg ha r1 r2 hg q => ?_⟩
  match ds, hg with
  | [k], hg =>
    dsimp only [gRemove] at hg
    by_cases hc : k.pl 50 = true ∧ D.pls xs 50 = true
    · rw [if_pos hc] at hg
      cases hf : xs.findIdx? (fun z => D.beq z k) with
      | none => rw [hf] at hg; cases hg
      | some j =>
        rw [hf] at hg
        cases hg
        obtain ⟨w, _, rfl, rw, e⟩ := r2
        have e : _ = [] := e
        subst e
        refine ⟨a, vs, w, k.py, D.pys xs, j, rfl, rfl, ha, RepL.dp xs 50 vs hc.2 (r1.mono sg), Rep.dp k 50 w hc.1 (rw.mono sg), pys_plain xs 50 hc.2, py_plain k 50 hc.1, ?_, by rw [findIdx_pys]; exact hf, q _ (repl_erase r1 j)⟩
        have := (py_can k 50 hc.1).2
        omega
    · rw [if_neg hc] at hg; cases hg
def gInsert : List D → List D → Option (List D) := fun xs ds => match ds with
  | [.int i, d] => if 0 ≤ i ∧ i < 1000000 ∧ xs.length < sizeLine then some (xs.take i.toNat ++ [d] ++ xs.drop i.toNat) else none
  | _ => none
theorem mut_insert : MutL X "list.insert" gInsert := by
  refine ⟨_, mt_insert, fun G H a xs vs ds ws xs' Q sg ha r1 r2 hg q => ?_⟩
  match ds, hg with
  | [.int i, d], hg =>
    dsimp only [gInsert] at hg
    by_cases hc : 0 ≤ i ∧ i < 1000000 ∧ xs.length < sizeLine
    · rw [if_pos hc] at hg
      cases hg
      obtain ⟨w, _, rfl, rw, w2, _, rfl, rw2, e⟩ := r2
      have e : _ = [] := e
      subst e
      cases (show w = .int i from rw)
      exact ⟨a, vs, i, w2, rfl, rfl, ha, by rw [r1.length]; exact hc.2.2, hc.1, by omega, q _ (((r1.take i.toNat).append (.cons rw2 .nil)).append (r1.drop i.toNat))⟩
    · rw [if_neg hc] at hg; cases hg
/-! ### list(range(..)) -/
def RgOkB (i j : Int) : Bool := decide (-1000000000 ≤ i ∧ i ≤ 1000000000 ∧ -1000000000 ≤ j ∧ j ≤ 1000000000 ∧ (j - i).toNat ≤ 1000000)
def dRangeL : D → D → Res D
  | .int i, .int j => if RgOkB i j = true then .ok (.lst (rangeD i j)) else .bad
  | _, _ => .bad
theorem rgV_rep {K : PySem.W.Frag} {G : Hp} (i j : Int) : RepL K G (rangeD i j) (rgV i j) := by
  unfold rangeD rgV
  generalize List.range (j - i).toNat = l
  induction l with
  | nil => rfl
  | cons n l ih => exact ⟨_, _, rfl, rfl, ih⟩
theorem rgOk_of {i j : Int} (h : RgOkB i j = true) : RgOk i j := by
  have h := of_decide_eq_true h
  refine ⟨by omega, by omega, by omega, by omega, ?_⟩
  have := sizeLine_eq
  omega
def eRange1 (f : DL.Env → Res D) : DL.Env → Res D := fun e => (f e).bind fun x => dRangeL (.int 0) x
theorem df_listRg1 {f : DL.Env → Res D} (hc : X.calm = true) (hg : Gl X "list") (hm : X.mg "list" = none) (hgr : Gl X "range") (hmr : X.mg "range" = none) (ha : DE X W A a f) (na : starEach [a] X.env = (false, eval a X.env) :: starEach [] X.env := by rfl)
    (ne : starEach [.Call (.Name "range" p1) [a] [] p2] X.env = (false, eval (.Call (.Name "range" p1) [a] [] p2) X.env) :: starEach [] X.env := by rfl) :
    DF X W A (.Call (.Name "list" p) [.Call (.Name "range" p1) [a] [] p2] [] pos) (eRange1 f) :=
  (pe_listRg hc hg hm (prg_1 hgr hmr ha na) ne).imp fun σ H Q ⟨en, G, E, q⟩ => ⟨en, G, E, q.split.imp fun d H1 G1 x1 q1 v rv => by
    cases d with
    | int n =>
      have ev : v = .int n := rv
      subst ev
      dsimp only [dRangeL] at q1
      by_cases hr : RgOkB 0 n = true
      · rw [if_pos hr] at q1
        exact ⟨n, rfl, rgOk_of hr, fun l hl => q1 (upd H1 l (.lst (rgV 0 n))) G1 ⟨Sub.upd hl, Sub.refl _, x1.gh.trans (Sub.upd hl), fun b z => .inl z⟩ l (x1.hh.free hl) (x1.gh.free hl) ⟨_, upd_same, rgV_rep 0 n⟩⟩
      · rw [if_neg hr] at q1; exact q1.elim
    | _ => exact (show False from q1).elim⟩
theorem df_listRg2 {fa fb : DL.Env → Res D} (hc : X.calm = true) (hg : Gl X "list") (hm : X.mg "list" = none) (hgr : Gl X "range") (hmr : X.mg "range" = none) (ha : DE X W A a fa) (hb : DE X W A b fb) (na : starEach [a, b] X.env = (false, eval a X.env) :: starEach [b] X.env := by rfl)
    (nb : starEach [b] X.env = (false, eval b X.env) :: starEach [] X.env := by rfl) (hp : (backTo p2 (starEach [b] X.env)).any (·.1) = false := by rfl)
    (ne : starEach [.Call (.Name "range" p1) [a, b] [] p2] X.env = (false, eval (.Call (.Name "range" p1) [a, b] [] p2) X.env) :: starEach [] X.env := by rfl) :
    DF X W A (.Call (.Name "list" p) [.Call (.Name "range" p1) [a, b] [] p2] [] pos) (eOp dRangeL fa fb) :=
  (pe_listRg hc hg hm (prg_2 hgr hmr ha hb na nb hp) ne).imp fun σ H Q ⟨en, G, E, q⟩ => ⟨en, G, E, q.split.imp fun d H1 G1 x1 q1 v rv => ⟨en, G1, E.ext x1, q1.split.imp fun d2 H2 G2 x2 q2 u ru => by
    cases d with
    | int i =>
      cases d2 with
      | int j =>
        have ev : v = .int i := rv
        have eu : u = .int j := ru
        subst ev eu
        dsimp only [dRangeL] at q2
        by_cases hr : RgOkB i j = true
        · rw [if_pos hr] at q2
          exact ⟨i, j, rfl, rfl, rgOk_of hr, fun l hl => q2 (upd H2 l (.lst (rgV i j))) G2 ⟨Sub.upd hl, Sub.refl _, x2.gh.trans (Sub.upd hl), fun b z => .inl z⟩ l (x1.hh.free (x2.hh.free hl)) (x2.gh.free hl) ⟨_, upd_same, rgV_rep i j⟩⟩
        · rw [if_neg hr] at q2; exact q2.elim
      | _ => exact (show False from q2).elim
    | _ => cases d2 <;> exact (show False from q2).elim⟩⟩
/-! ### [x] * n -/
def dRep : D → D → Res D
  | .lst xs, .int k => if -1000000000 ≤ k ∧ k ≤ 1000000000 ∧ xs.length * k.toNat ≤ sizeLine then .ok (.lst (List.replicate k.toNat xs).flatten) else .bad
  | _, _ => .bad
theorem repl_flat {K : PySem.W.Frag} {G : Hp} {ds : List D} {vs : List V} (h : RepL K G ds vs) : ∀ n, RepL K G (List.replicate n ds).flatten (List.replicate n vs).flatten
  | 0 => rfl
  | n + 1 => by
    rw [List.replicate_succ, List.replicate_succ, List.flatten_cons, List.flatten_cons]
    exact h.append (repl_flat h n)
theorem df_rep {fa fb : DL.Env → Res D} (ha : DF X W A a fa) (hb : DR X W A b fb) : DF X W A (.BinOp a .Mult b pos) (eOp dRep fa fb) :=
  (pe_op op_rep ha hb).imp fun σ H Q ⟨en, G, E, q⟩ => ⟨en, G, E, q.split.imp fun d H1 G1 x1 q1 r hr gr rc => ⟨en, G1, E.ext x1, q1.split.imp fun d2 H2 G2 x2 q2 u ru => by
    cases d with
    | lst xs =>
      cases d2 with
      | int k =>
        have eu : u = .int k := ru
        subst eu
        dsimp only [dRep] at q2
        by_cases hk : -1000000000 ≤ k ∧ k ≤ 1000000000 ∧ xs.length * k.toNat ≤ sizeLine
        · rw [if_pos hk] at q2
          obtain ⟨vs, e1, r1⟩ := rc
          refine ⟨r, k, vs, rfl, rfl, x2.hh _ _ e1, by omega, by omega, by rw [r1.length]; exact hk.2.2, fun l hl => ?_⟩
          exact q2 (upd H2 l (.lst (List.replicate k.toNat vs).flatten)) G2 ⟨Sub.upd hl, Sub.refl _, x2.gh.trans (Sub.upd hl), fun b z => .inl z⟩ l (x1.hh.free (x2.hh.free hl)) (x2.gh.free hl) ⟨_, upd_same, repl_flat (r1.mono x2.gg) _⟩
        · rw [if_neg hk] at q2; exact q2.elim
      | _ => exact (show False from q2).elim
    | _ => cases d2 <;> exact (show False from q2).elim⟩⟩
end
theorem _root_.L2.Room.hu66 {k : Nat} {A : Around} (h : Room k A) : A.units + 66 < cLine := by have := h.un; omega
end DL

/-! zip and enumerate over lists and tuples, mixed -/
namespace DL
open PySem PySem.Spec PyProof.Rows L2
open PySem.Builtin.Int (intBits)
/-! ### a side: a list (false) or a tuple (true) -/
def SqB (K : PySem.W.Frag) (t : Bool) (H : Hp) (a : Addr) (vs : List V) : Prop := match t with
  | true => SqT K H a vs
  | false => SqL K H a vs
def IsB (t : Bool) (h : Heap) (a : Addr) (its : Array Value) : Prop := match t with
  | true => h.IsTuple a its
  | false => h.IsList a its
def IterB (t : Bool) (h : Heap) (it a : Addr) (i : Nat) : Prop := match t with
  | true => h.IsTupleIter it a i
  | false => h.IsListIter it a i
def iterO (t : Bool) (a : Addr) : Obj := match t with
  | true => { cls := .type "tuple_iterator", data := .fields #[.ref a, .int 0 0] }
  | false => { cls := .type "list_iterator", data := .fields #[.ref a, .int 0 0] }
theorem draws_b {prog : Program} {w : World} {A : Around} (hh : A.handled = none) (it a : Addr) (hne : a ≠ it) (its : Array Value) : ∀ t, Draws prog w A it [it, a] its.size (fun i v => its[i]? = some v) (fun i h => IterB t h it a i ∧ IsB t h a its)
  | true => Draws.tuple hh it a hne its
  | false => Draws.list hh it a hne its
theorem begins_b (a : Addr) (its : Array Value) : ∀ t, Begins (.ref a) (iterO t a) fun h => IsB t h a its
  | true => begins_tuple a its
  | false => begins_list a its
theorem sqb_is {X : Cx} {pins : List (Addr × Obj)} {σ : L2.St} {H : Hp} {s : Shared} {a : Addr} {vs : List V} (I : Inv X pins σ H s) : ∀ {t : Bool}, SqB X.K t H a vs → ∃ its : List Value, Vals vs its ∧ IsB t s.heap a its.toArray
  | true, h => let ⟨its, r, p, _⟩ := I.tuple h; ⟨its, r, p⟩
  | false, h => let ⟨its, r, p, _⟩ := I.list h; ⟨its, r, p.isList⟩
theorem iterb_obj {h : Heap} {it a : Addr} {i : Nat} : ∀ {t : Bool}, IterB t h it a i → ∃ o, h.get? it = some o ∧ ∀ v, o.data ≠ .cell v
  | true, ⟨o, e, _, d⟩ => ⟨o, e, fun v q => by rw [d] at q; cases q⟩
  | false, ⟨o, e, _, d⟩ => ⟨o, e, fun v q => by rw [d] at q; cases q⟩
theorem iterb_keep {h h' : Heap} {it a : Addr} {i : Nat} (k : ∀ o, h.get? it = some o → h'.get? it = some o) : ∀ {t : Bool}, IterB t h it a i → IterB t h' it a i
  | true, st => Heap.IsTupleIter.at st k
  | false, st => Heap.IsListIter.at st k
theorem iterb_new {h : Heap} {it a : Addr} : ∀ {t : Bool}, h.get? it = some (iterO t a) → IterB t h it a 0
  | true, e => ⟨_, e, rfl, rfl⟩
  | false, e => ⟨_, e, rfl, rfl⟩
theorem isb_lt {h : Heap} {a : Addr} {its : Array Value} : ∀ {t : Bool}, IsB t h a its → a < h.objs.size
  | true, ⟨o, e, _⟩ => Heap.lt_size e
  | false, ⟨o, e, _⟩ => Heap.lt_size e
/-! ### zip -/
def ItZ2 (K : PySem.W.Frag) (t1 t2 : Bool) (a b : Addr) (xs ys : List V) : It :=
  ⟨fun i H => SqB K t1 H a xs ∧ SqB K t2 H b ys ∧ i < xs.length ∧ i < ys.length,
    fun i H v H' => ∃ T x y, v = .ref T ∧ H T = none ∧ H' = upd H T (.tup [x, y]) ∧ xs[i]? = some x ∧ ys[i]? = some y,
    fun i H => SqB K t1 H a xs ∧ SqB K t2 H b ys ∧ i ≤ xs.length ∧ i ≤ ys.length ∧ (i = xs.length ∨ i = ys.length)⟩
def ZSt (t1 t2 : Bool) (N a b : Nat) (i : Nat) (h : Heap) : Prop :=
  IsZip h (N + 4) (N + 2) (N + 3) .none ∧ IsTupOf2 h (N + 2) (.ref N) (.ref (N + 1)) ∧ (∃ x y, IsTupOf2 h (N + 3) x y) ∧ IterB t1 h N a i ∧ IterB t2 h (N + 1) b i
theorem nn {m n : Nat} (h : @Ne Nat m n) : @Ne Addr m n := h
theorem ni {c m n : Nat} (h1 : @Ne Nat c m) (h2 : @Ne Nat c n) : @Not (@Membership.mem Addr (List Addr) _ [m, n] c) := fun h => by
  rcases List.mem_cons.mp h with e | h
  · exact h1 e
  · exact h2 (List.mem_singleton.mp h)
theorem sep_N {N a b : Nat} (ha : a < N) (hb : b < N) : ZipSep2 (N + 4) (N + 2) (N + 3) N (N + 1) [N, a] [N + 1, b] where
  TIz := nn (by omega)
  TOz := nn (by omega)
  TITO := nn (by omega)
  TIi1 := nn (by omega)
  mem1 := List.mem_cons_self
  zf1 := ni (by omega) (by omega)
  Tf1 := ni (by omega) (by omega)
  TIi2 := nn (by omega)
  mem2 := List.mem_cons_self
  zf2 := ni (by omega) (by omega)
  Tf2 := ni (by omega) (by omega)
  sep1_2 := ni (by omega) (by omega)
  sep2_1 := ni (by omega) (by omega)
theorem zst_mem {N c : Nat} (h : c ∈ [N + 4, N + 2, N + 3, N, N + 1]) : c = N + 4 ∨ c = N + 2 ∨ c = N + 3 ∨ c = N ∨ c = N + 1 := by simpa using h
theorem turn_z2 {P : Program} {w : World} {K : PySem.W.Frag} {elts : List Expr} {kk : Nat} {tpos : Pos} {N a b : Nat} {t1 t2 : Bool} {xs ys : List V} (ha : a < N) (hb : b < N) :
    Turn P w K (.Tuple elts kk tpos) (ItZ2 K t1 t2 a b xs ys) [N + 4, N + 2, N + 3, N, N + 1] (N + 4) (ZSt t1 t2 N a b) where
  mem := by simp
  obj := fun i h st c hc => by
    obtain ⟨hz, hTI, ⟨x, y, hTO⟩, e1, e2⟩ := st
    rcases zst_mem hc with q | q | q | q | q <;> subst q
    · exact ⟨_, hz, fun v q => nomatch q⟩
    · exact ⟨_, hTI, fun v q => nomatch q⟩
    · exact ⟨_, hTO, fun v q => nomatch q⟩
    · exact iterb_obj e1
    · exact iterb_obj e2
  keep := fun i h h' ⟨hz, hTI, ⟨x, y, hTO⟩, e1, e2⟩ k =>
    ⟨k _ (by simp) _ hz, k _ (by simp) _ hTI, ⟨x, y, k _ (by simp) _ hTO⟩, iterb_keep (fun o => k N (by simp) o) e1, iterb_keep (fun o => k (N + 1) (by simp) o) e2⟩
  item := by
    intro X hP hw hK hc i pins s σ H E I hf st hg
    subst hP hw hK
    obtain ⟨hz, hTI, ⟨x0, y0, hTO⟩, e1, e2⟩ := st
    obtain ⟨hx, hy, l1, l2⟩ := hg
    obtain ⟨its, r1, p1⟩ := sqb_is I hx
    obtain ⟨its2, r2, p2⟩ := sqb_is I hy
    have s1 : its.toArray.size = xs.length := by rw [List.size_toArray, r1.length]
    have s2 : its2.toArray.size = ys.length := by rw [List.size_toArray, r2.length]
    have hzl := Heap.lt_size hz
    have hTIl := Heap.lt_size hTI
    have hTOl := Heap.lt_size hTO
    refine wpAny_pyNext_zipD2_item (sep_N ha hb) (draws_b (prog := X.prog) (w := X.w) (A := X.A.in1) (I.ok.hd hc) N a (nn (by omega)) its.toArray t1) (draws_b (prog := X.prog) (w := X.w) (A := X.A.in1) (I.ok.hd hc) (N + 1) b (nn (by omega)) its2.toArray t2) hz hTI hTO ⟨e1, p1⟩ ⟨e2, p2⟩ (by omega) (by omega) fun u1 u2 h' tk q1 q2 z' TO' d1 d2 hT hsz hk => ?_
    refine ⟨_, rfl, wpAny_letOwnedTupleGo_zip (s := { s with heap := h', toks := tk }) z' fun h'' z'' sb => ?_⟩
    obtain ⟨w1, g1, rv1⟩ := r1.get (List.getElem?_eq_getElem l1)
    obtain ⟨w2, g2, rv2⟩ := r2.get (List.getElem?_eq_getElem l2)
    have ew1 : w1 = u1 := by
      rw [List.getElem?_toArray, g1] at q1
      exact Option.some.inj q1
    have ew2 : w2 = u2 := by
      rw [List.getElem?_toArray, g2] at q2
      exact Option.some.inj q2
    subst ew1 ew2
    have hT2 : h''.get? s.heap.objs.size = some { cls := .type "tuple", data := .seq #[w1, w2] } := (sb.2 _ (Nat.ne_of_gt hzl)).trans hT
    have new : ObjOk X.prog X.w (upd H s.heap.objs.size (.tup [xs[i], ys[i]])) h'' s.heap.objs.size (.tup [xs[i], ys[i]]) :=
      ⟨by show 2 ≤ sizeLine; decide, [w1, w2], .cons rv1 (.cons rv2 .nil), ⟨_, hT2, rfl, _, rfl⟩⟩
    have I1 : Inv X pins σ (upd H s.heap.objs.size (.tup [xs[i], ys[i]])) { s with heap := h'', toks := tk } :=
      I.turnedNew (t' := tk) (ch := [N + 4, N + 2, N + 3, N, N + 1]) (fun c o hn q => (sb.2 c (fun q' => hn (by simp [q']))).trans (hk c o (fun q' => hn (by simp [q'])) (fun q' => hn (by simp [q'])) (fun q' => hn (by simp [q'])) (fun q' => hn (by simp [q'])) q)) hf (Nat.le_refl _) new
    refine ⟨.ref s.heap.objs.size, _, I1, rfl, ⟨_, xs[i], ys[i], rfl, I.hok.fresh (Nat.le_refl _), rfl, List.getElem?_eq_getElem l1, List.getElem?_eq_getElem l2⟩, ⟨z'', ?_, ⟨w1, w2, ?_⟩, ?_, ?_⟩, fun c hcm => ?_⟩
    · exact (sb.2 _ (nn (by omega))).trans (hk _ _ (nn (by omega)) (nn (by omega)) (nn (by omega)) (nn (by omega)) hTI)
    · exact (sb.2 _ (nn (by omega))).trans TO'
    · exact iterb_keep (fun o q => (sb.2 _ (nn (by omega))).trans q) d1.1
    · exact iterb_keep (fun o q => (sb.2 _ (nn (by omega))).trans q) d2.1
    · have hlt : c < s.heap.objs.size := by
        rcases zst_mem hcm with q | q | q | q | q <;> (rw [q]; first | exact hzl | (refine Nat.lt_trans ?_ hzl; show (_ : Nat) < _; omega))
      rw [upd_ne (Nat.ne_of_lt hlt)]
      exact (hf c hcm).1
  done := by
    intro X hP hw hK hc i pins s σ H E I hf st hg
    subst hP hw hK
    obtain ⟨hz, hTI, ⟨x0, y0, hTO⟩, e1, e2⟩ := st
    obtain ⟨hx, hy, l1, l2, hend⟩ := hg
    obtain ⟨its, r1, p1⟩ := sqb_is I hx
    obtain ⟨its2, r2, p2⟩ := sqb_is I hy
    have s1 : its.toArray.size = xs.length := by rw [List.size_toArray, r1.length]
    have s2 : its2.toArray.size = ys.length := by rw [List.size_toArray, r2.length]
    exact wpAny_pyNext_zipD2_end (sep_N ha hb) (draws_b (prog := X.prog) (w := X.w) (A := X.A.in1) (I.ok.hd hc) N a (nn (by omega)) its.toArray t1) (draws_b (prog := X.prog) (w := X.w) (A := X.A.in1) (I.ok.hd hc) (N + 1) b (nn (by omega)) its2.toArray t2) hz hTI hTO ⟨e1, p1⟩ ⟨e2, p2⟩ (by omega) (by omega) (by omega) fun h' tk hk => ⟨rfl, I.turnedL (t' := tk) (ch := [N + 4, N + 2, N + 3, N, N + 1]) (fun c o hn q =>
      hk c o (fun q' => hn (by simp [q'])) (fun q' => hn (by simp [q'])) (fun q' => hn (by simp [q'])) (fun q' => hn (by simp [q'])) q) hf⟩
  self := fun A i s Q E st h => wpAny_pyIter_zip st.1 h
def iZ2 (K : PySem.W.Frag) (ta : TA) : TI := fun σ H R => ta σ H fun vs H1 => ∃ a b xs ys t1 t2, vs = [.ref a, .ref b] ∧ SqB K t1 H1 a xs ∧ SqB K t2 H1 b ys ∧ R (ItZ2 K t1 t2 a b xs ys) H1
theorem pi_z2 {X : Cx} {e e2 : Expr} {ta : TA} {p pos tpos : Pos} {elts : List Expr} {kk : Nat} (hg : Gl X "zip") (hm : X.mg "zip" = none) (ha : PA X [e, e2] ta)
    (hs : starEach [e, e2] X.env = (false, eval e X.env) :: starEach [e2] X.env := by rfl) (hpl : (backTo pos (starEach [e2] X.env)).any (·.1) = false := by rfl) :
    PI X (.Tuple elts kk tpos) (.Call (.Name "zip" p) [e, e2] [] pos) (iZ2 X.K ta) := by
  refine ⟨fun pins s σ H R I h => ?_⟩
  refine Call_ (ld_blt I hg hm PyProof.Rows.boot_zip (PyProof.Rows.callWith_type1 (thn (ha.run pos pins s σ H _ I h) fun us s1 ⟨vs, H1, I1, r1, q1⟩ => ?_) hs hpl))
  obtain ⟨a, b, xs, ys, t1, t2, rfl, hx, hy, q⟩ := q1
  obtain ⟨u1, u2, rfl, ru1, ru2⟩ := r1.two
  cases ru1
  cases ru2
  obtain ⟨its, rv1, p1⟩ := sqb_is I1 hx
  obtain ⟨its2, rv2, p2⟩ := sqb_is I1 hy
  refine zip_begins2 (begins_b a its.toArray t1) (begins_b b its2.toArray t2) p1 p2 fun h' hz hTI hTO h1 h2 hsz hk => wpAny_pyIter_zip hz ?_
  have I2 : Inv X pins σ H1 { s1 with heap := h' } := I1.kept (t' := s1.toks) hk
  refine ⟨s1.heap.objs.size + 4, _, ZSt t1 t2 s1.heap.objs.size a b, _, H1, rfl, I2, turn_z2 (isb_lt p1) (isb_lt p2), ⟨hz, hTI, ⟨_, _, hTO⟩, iterb_new h1, iterb_new h2⟩, fun c hcm => ?_, q⟩
  have hle : s1.heap.objs.size ≤ c := by
    rcases zst_mem hcm with z | z | z | z | z <;> (rw [z]; first | exact Nat.le_refl _ | exact Nat.le_add_right _ _)
  exact I1.fpOk hle (I1.hok.fresh hle)
/-- pairs of two lists' items -/
def zipT : List D → List D → List D
  | x :: xs, y :: ys => .tup [x, y] :: zipT xs ys
  | _, _ => []
theorem zipT_length : ∀ xs ys : List D, (zipT xs ys).length = min xs.length ys.length
  | [], _ => by simp [zipT]
  | _ :: _, [] => by simp [zipT]
  | x :: xs, y :: ys => by
    rw [zipT, List.length_cons, List.length_cons, List.length_cons, zipT_length xs ys]
    omega
theorem zipT_get : ∀ {xs ys : List D} {i : Nat} {x y : D}, xs[i]? = some x → ys[i]? = some y → (zipT xs ys)[i]? = some (.tup [x, y])
  | x :: xs, y :: ys, 0, _, _, h1, h2 => by cases h1; cases h2; rfl
  | x :: xs, y :: ys, i + 1, _, _, h1, h2 => by
    have := zipT_get (xs := xs) (ys := ys) (i := i) (by simpa using h1) (by simpa using h2)
    simpa [zipT] using this
  | [], _, i, _, _, h1, _ => by simp at h1
  | _ :: _, [], i, _, _, _, h2 => by simp at h2
theorem walk_z2 {K : PySem.W.Frag} {B G : Hp} {a b : Addr} {t1 t2 : Bool} {ds es : List D} {xs ys : List V} (h1 : SqB K t1 B a xs) (h2 : SqB K t2 B b ys) (r1 : RepL K G ds xs) (r2 : RepL K G es ys) : WalkOf K (ItZ2 K t1 t2 a b xs ys) (zipT ds es) B G := by
  have up : ∀ {t : Bool} {c : Addr} {vs : List V} {H : Hp}, Sub B H → SqB K t B c vs → SqB K t H c vs := fun {t c vs H} s h => by
    cases t with
    | true => exact s.sqt h
    | false => exact s.sql h
  have e1 := r1.length
  have e2 := r2.length
  refine ⟨fun H i s hi => ?_, fun H s => ?_, fun H G2 i x H' s g g2 hi y => ?_⟩
  · rw [zipT_length] at hi
    exact ⟨up s h1, up s h2, by omega, by omega⟩
  · rw [zipT_length]
    exact ⟨up s h1, up s h2, by omega, by omega, by omega⟩
  · obtain ⟨T, v1, v2, rfl, hT, rfl, g1, g3⟩ := y
    obtain ⟨d1, k1, k2⟩ := r1.get' g1
    obtain ⟨d2, k3, k4⟩ := r2.get' g3
    refine ⟨.tup [d1, d2], upd G2 T (.tup [v1, v2]), zipT_get k1 k3, Ext.laid g2 hT, T, [v1, v2], rfl, upd_same, ?_⟩
    have up2 : Sub G (upd G2 T (.tup [v1, v2])) := g.trans (Sub.upd (g2.free hT))
    exact .cons (k2.mono up2) (.cons (k4.mono up2) .nil)
def seqOf : D → Option (List D)
  | .lst xs => some xs
  | .tup xs => some xs
  | .con xs => some xs
  | _ => none
theorem seqOf_rep {K : PySem.W.Frag} {H G : Hp} {d : D} {v : V} {xs : List D} (sg : Sub G H) (h : seqOf d = some xs) (r : Rep K G d v) : ∃ a t vs, v = .ref a ∧ SqB K t H a vs ∧ RepL K G xs vs := by
  cases d with
  | lst ys => cases h; obtain ⟨a, vs, rfl, s, q⟩ := r; exact ⟨a, false, vs, rfl, sg.sql s, q⟩
  | tup ys => cases h; obtain ⟨a, vs, rfl, s, q⟩ := r; exact ⟨a, true, vs, rfl, sg.pt s, q⟩
  | con ys => cases h; obtain ⟨a, vs, rfl, s, q⟩ := r; exact ⟨a, true, vs, rfl, sg.sqt s, q⟩
  | _ => cases h
def iZip (fs : DL.Env → Res (List D)) : DL.Env → Res (List D) := fun e => (fs e).bind fun ds => match ds with
  | [x, y] => (match seqOf x, seqOf y with
    | some xs, some ys => .ok (zipT xs ys)
    | _, _ => .bad)
  | _ => .bad
section
variable {X : Cx} {W : WX} {A : Nat → Prop} {a b : Expr} {p pos tpos : Pos} {elts : List Expr} {kk : Nat}
theorem di_zip {fs : DL.Env → Res (List D)} (hg : Gl X "zip") (hm : X.mg "zip" = none) (ha : DA X W A [a, b] fs)
    (hs : starEach [a, b] X.env = (false, eval a X.env) :: starEach [b] X.env := by rfl) (hpl : (backTo pos (starEach [b] X.env)).any (·.1) = false := by rfl) : DI X W A (.Tuple elts kk tpos) (.Call (.Name "zip" p) [a, b] [] pos) (iZip fs) :=
  (pi_z2 hg hm ha hs hpl).imp fun σ H Q ⟨e, G, E, q⟩ => ⟨e, G, E, q.split.imp fun ds H1 G1 x1 q1 vs rs => by
    match ds, q1 with
    | [x, y], q1 =>
      dsimp only at q1
      cases hx : seqOf x with
      | none => rw [hx] at q1; exact q1.elim
      | some xs =>
        cases hy : seqOf y with
        | none => rw [hx, hy] at q1; exact q1.elim
        | some ys =>
          rw [hx, hy] at q1
          obtain ⟨v1, _, rfl, rv1, v2, _, rfl, rv2, e0⟩ := rs
          have e0 : _ = [] := e0
          subst e0
          obtain ⟨c1, t1, us1, rfl, s1, k1⟩ := seqOf_rep (Sub.refl G1) hx rv1
          obtain ⟨c2, t2, us2, rfl, s2, k2⟩ := seqOf_rep (Sub.refl G1) hy rv2
          have up : ∀ {t : Bool} {c : Addr} {vs : List V}, SqB X.K t G1 c vs → SqB X.K t H1 c vs := fun {t c vs} h => by
            cases t with
            | true => exact x1.gh.sqt h
            | false => exact x1.gh.sql h
          exact ⟨c1, c2, us1, us2, t1, t2, rfl, up s1, up s2, q1.here x1.gh _ (walk_z2 s1 s2 k1 k2)⟩⟩
end
end DL

/-! enumerate over a list or a tuple; slices with a step -/
namespace DL
open PySem PySem.Spec PyProof.Rows L2
open PySem.Builtin.Int (intBits)
def ItE2 (K : PySem.W.Frag) (t : Bool) (a : Addr) (xs : List V) : It :=
  ⟨fun i H => SqB K t H a xs ∧ i < xs.length,
    fun i H v H' => ∃ T x, v = .ref T ∧ H T = none ∧ H' = upd H T (.tup [.int (i : Nat), x]) ∧ xs[i]? = some x,
    fun i H => SqB K t H a xs ∧ i = xs.length⟩
def ESt (t : Bool) (N a : Nat) (i : Nat) (h : Heap) : Prop := (∃ old, IsEnum h (N + 1) N ((i : Nat) : Int) old) ∧ IterB t h N a i
theorem est_mem {N c : Nat} (h : c ∈ [N + 1, N]) : c = N + 1 ∨ c = N := by simpa using h
theorem turn_e2 {P : Program} {w : World} {K : PySem.W.Frag} {elts : List Expr} {kk : Nat} {tpos : Pos} {N a : Nat} {t : Bool} {xs : List V} (ha : a < N) :
    Turn P w K (.Tuple elts kk tpos) (ItE2 K t a xs) [N + 1, N] (N + 1) (ESt t N a) where
  mem := by simp
  obj := fun i h st c hc => by
    obtain ⟨⟨old, he⟩, e1⟩ := st
    rcases est_mem hc with q | q <;> subst q
    · exact ⟨_, he, fun v q => nomatch q⟩
    · exact iterb_obj e1
  keep := fun i h h' ⟨⟨old, he⟩, e1⟩ k => ⟨⟨old, k _ (by simp) _ he⟩, iterb_keep (fun o => k N (by simp) o) e1⟩
  item := by
    intro X hP hw hK hc i pins s σ H E I hf st hg
    subst hP hw hK
    obtain ⟨⟨old, he⟩, e1⟩ := st
    obtain ⟨hx, l1⟩ := hg
    obtain ⟨its, r1, p1⟩ := sqb_is I hx
    have s1 : its.toArray.size = xs.length := by rw [List.size_toArray, r1.length]
    have hel := Heap.lt_size he
    refine wpAny_pyNext_enum_itemC (draws_b (prog := X.prog) (w := X.w) (A := X.A.in1) (I.ok.hd hc) N a (nn (by omega)) its.toArray t) he ⟨e1, p1⟩ (by omega) (nn (by omega)) (ni (by omega) (by omega)) fun u1 h' tk q1 ho d1 hT hsz hk => ?_
    refine ⟨_, rfl, wpAny_letOwnedTupleGo_enum (s := { s with heap := h', toks := tk + 1 }) ho fun h'' he' sb => ?_⟩
    obtain ⟨w1, g1, rv1⟩ := r1.get (List.getElem?_eq_getElem l1)
    have ew1 : w1 = u1 := by
      rw [List.getElem?_toArray, g1] at q1
      exact Option.some.inj q1
    subst ew1
    have hT2 : h''.get? s.heap.objs.size = some { cls := .type "tuple", data := .seq #[.int i tk, w1] } := (sb.2 _ (Nat.ne_of_gt hel)).trans hT
    have new : ObjOk X.prog X.w (upd H s.heap.objs.size (.tup [.int (i : Nat), xs[i]])) h'' s.heap.objs.size (.tup [.int (i : Nat), xs[i]]) :=
      ⟨by show 2 ≤ sizeLine; decide, [.int i tk, w1], .cons ⟨_, rfl⟩ (.cons rv1 .nil), ⟨_, hT2, rfl, _, rfl⟩⟩
    have I1 : Inv X pins σ (upd H s.heap.objs.size (.tup [.int (i : Nat), xs[i]])) { s with heap := h'', toks := tk + 1 } :=
      I.turnedNew (t' := tk + 1) (ch := [N + 1, N]) (fun c o hn q => (sb.2 c (fun q' => hn (by simp [q']))).trans (hk c o (fun q' => hn (by simp [q'])) (fun q' => hn (by simp [q'])) q)) hf (Nat.le_refl _) new
    refine ⟨.ref s.heap.objs.size, _, I1, rfl, ⟨_, xs[i], rfl, I.hok.fresh (Nat.le_refl _), rfl, List.getElem?_eq_getElem l1⟩, ⟨⟨w1, ?_⟩, ?_⟩, fun c hcm => ?_⟩
    · have e2 : ((i + 1 : Nat) : Int) = (i : Int) + 1 := by omega
      rw [e2]
      exact he'
    · exact iterb_keep (fun o q => (sb.2 _ (nn (by omega))).trans q) d1.1
    · have hlt : c < s.heap.objs.size := by
        rcases est_mem hcm with q | q <;> (rw [q]; first | exact hel | (refine Nat.lt_trans ?_ hel; show (_ : Nat) < _; omega))
      rw [upd_ne (Nat.ne_of_lt hlt)]
      exact (hf c hcm).1
  done := by
    intro X hP hw hK hc i pins s σ H E I hf st hg
    subst hP hw hK
    obtain ⟨⟨old, he⟩, e1⟩ := st
    obtain ⟨hx, l1⟩ := hg
    obtain ⟨its, r1, p1⟩ := sqb_is I hx
    have s1 : its.toArray.size = i := by
      rw [List.size_toArray, ← r1.length]; exact l1.symm
    have D := draws_b (prog := X.prog) (w := X.w) (A := X.A.in1) (I.ok.hd hc) N a (nn (by omega)) its.toArray t
    rw [s1] at D
    exact wpAny_pyNext_enum_endD D he ⟨e1, p1⟩ fun h' hk => ⟨rfl, I.turnedL (t' := s.toks) (ch := [N + 1, N]) (fun c o hn q => hk c o (fun q' => hn (by simp [q'])) q) hf⟩
  self := fun A i s Q E st h => by
    obtain ⟨⟨old, he⟩, _⟩ := st
    exact wpAny_pyIter_enum he h
theorem meets_enum1 {v : Value} {o : Obj} {H : Heap → Prop} (B : Begins v o H) :
    Meets (Builtin.«enumerate.__new__» ⟨[.type "enumerate", v], []⟩) (fun _ R s => H s.heap ∧
      R (.ok (.ret (.ref (s.heap.push o).objs.size))) { s with heap := (s.heap.push o).push { cls := .type "enumerate", data := .fields #[.none, .bool false, .ref s.heap.objs.size, rawInt 0, .none, .none] } }) :=
  .of_wp fun prog w A R s h => by
    obtain ⟨hp, g, d, tk, os⟩ := s
    obtain ⟨h1, h⟩ := h
    have sb := sub_enumerate
    have it : ∀ {A' : Around} {E : Value → Shared → Prop} {Q : Value → Shared → Prop}, Q (.ref hp.objs.size) ⟨hp.push o, g, d, tk, os⟩ → wpAny (model prog w) A' (pyIter v) Q E ⟨hp, g, d, tk, os⟩ := fun q => B.iter prog w _ _ ⟨hp, g, d, tk, os⟩ _ h1 q
    wp_walk using it
    refine wpAny_stack_any fun st => wpAny_pure ?_
    split
    · rename_i c _ _ _ _ _
      cases (c == Value.type "enumerate") <;> (wp_walk using it; exact ⟨_, rfl, h⟩)
    · wp_walk using it
      exact ⟨_, rfl, h⟩
theorem enum_begin1 {prog : Program} {w : World} {A : Around} {E : Value → Shared → Prop} {s : Shared} {v : Value} {o : Obj} {H : Heap → Prop} {Q : Value → Shared → Prop} (B : Begins v o H) (h1 : H s.heap)
    (h : ∀ h', IsEnum h' (s.heap.objs.size + 1) s.heap.objs.size 0 .none → h'.get? s.heap.objs.size = some o → (∀ b o, s.heap.get? b = some o → h'.get? b = some o) → Q (.ref (s.heap.objs.size + 1)) { s with heap := h' }) :
    wpAny (model prog w) A (call (.type "enumerate") [v]) Q E s := by
  refine callType_new F.called_enumerate (by decide) (F.typeCall_enumerate_1 _) (F.newCall_enumerate_1 _) (fun obj => F.args_object_init_2 obj _) F.entry_enumerate_new (meets_enum1 B) ⟨h1, ?_⟩
  have hz : (s.heap.push o).objs.size = s.heap.objs.size + 1 := Heap.size_push ..
  show _ ∧ _
  rw [hz]
  have he := Heap.get?_push_size (s.heap.push o) (o := { cls := .type "enumerate", data := .fields #[.none, .bool false, .ref s.heap.objs.size, rawInt 0, .none, .none] }) rfl
  rw [hz] at he
  exact ⟨⟨_, he, rfl⟩, h _ he (Heap.get?_push_of_some _ (Heap.get?_push_size _ B.free)) fun b o' x => Heap.get?_push_of_some _ (Heap.get?_push_of_some _ x)⟩
def iE2 (K : PySem.W.Frag) (ta : TA) : TI := fun σ H R => ta σ H fun vs H1 => ∃ a xs t, vs = [.ref a] ∧ SqB K t H1 a xs ∧ R (ItE2 K t a xs) H1
theorem pi_e2 {X : Cx} {e : Expr} {ta : TA} {p pos tpos : Pos} {elts : List Expr} {kk : Nat} (hg : Gl X "enumerate") (hm : X.mg "enumerate" = none) (ha : PA X [e] ta) (hs : starEach [e] X.env = [(false, eval e X.env)] := by rfl) :
    PI X (.Tuple elts kk tpos) (.Call (.Name "enumerate" p) [e] [] pos) (iE2 X.K ta) := by
  refine ⟨fun pins s σ H R I h => ?_⟩
  refine Call_ (ld_blt I hg hm boot_enumerate (PyProof.Rows.callWith_type1 (thn (ha.run pos pins s σ H _ I h) fun us s1 ⟨vs, H1, I1, r1, q1⟩ => ?_) hs rfl))
  obtain ⟨a, xs, t, rfl, hx, q⟩ := q1
  obtain ⟨u1, rfl, ru1⟩ := r1.one
  cases ru1
  obtain ⟨its, rv1, p1⟩ := sqb_is I1 hx
  refine enum_begin1 (begins_b a its.toArray t) p1 fun h' he h1 hk => wpAny_pyIter_enum he ?_
  have I2 : Inv X pins σ H1 { s1 with heap := h' } := I1.kept (t' := s1.toks) hk
  refine ⟨s1.heap.objs.size + 1, _, ESt t s1.heap.objs.size a, _, H1, rfl, I2, turn_e2 (isb_lt p1), ⟨⟨_, he⟩, iterb_new h1⟩, fun c hcm => ?_, q⟩
  have hle : s1.heap.objs.size ≤ c := by
    rcases est_mem hcm with z | z <;> (rw [z]; first | exact Nat.le_refl _ | exact Nat.le_add_right _ _)
  exact I1.fpOk hle (I1.hok.fresh hle)
/-- pairs of a place and an item -/
def enumT : Nat → List D → List D
  | _, [] => []
  | n, x :: xs => .tup [.int (n : Nat), x] :: enumT (n + 1) xs
theorem enumT_length : ∀ (n : Nat) (xs : List D), (enumT n xs).length = xs.length
  | _, [] => rfl
  | n, x :: xs => by rw [enumT, List.length_cons, List.length_cons, enumT_length (n + 1) xs]
theorem enumT_get : ∀ {xs : List D} {n i : Nat} {x : D}, xs[i]? = some x → (enumT n xs)[i]? = some (.tup [.int ((n + i : Nat) : Int), x])
  | x :: xs, n, 0, _, h => by cases h; rfl
  | x :: xs, n, i + 1, _, h => by
    have := enumT_get (xs := xs) (n := n + 1) (i := i) (by simpa using h)
    rw [enumT, List.getElem?_cons_succ, this, Nat.add_assoc, Nat.add_comm 1 i]
  | [], _, i, _, h => by simp at h
theorem walk_e2 {K : PySem.W.Frag} {B G : Hp} {a : Addr} {t : Bool} {ds : List D} {xs : List V} (h1 : SqB K t B a xs) (r1 : RepL K G ds xs) : WalkOf K (ItE2 K t a xs) (enumT 0 ds) B G := by
  have up : ∀ {t : Bool} {c : Addr} {vs : List V} {H : Hp}, Sub B H → SqB K t B c vs → SqB K t H c vs := fun {t c vs H} s h => by
    cases t with
    | true => exact s.sqt h
    | false => exact s.sql h
  have e1 := r1.length
  refine ⟨fun H i s hi => ?_, fun H s => ?_, fun H G2 i x H' s g g2 hi y => ?_⟩
  · rw [enumT_length] at hi
    exact ⟨up s h1, by omega⟩
  · rw [enumT_length]
    exact ⟨up s h1, by omega⟩
  · obtain ⟨T, v1, rfl, hT, rfl, g1⟩ := y
    obtain ⟨d1, k1, k2⟩ := r1.get' g1
    have hg := enumT_get (n := 0) k1
    rw [Nat.zero_add] at hg
    refine ⟨.tup [.int (i : Nat), d1], upd G2 T (.tup [.int (i : Nat), v1]), hg, Ext.laid g2 hT, T, [.int (i : Nat), v1], rfl, upd_same, ?_⟩
    have up2 : Sub G (upd G2 T (.tup [.int (i : Nat), v1])) := g.trans (Sub.upd (g2.free hT))
    exact .cons rfl (.cons (k2.mono up2) .nil)
def iEnum (f : DL.Env → Res D) : DL.Env → Res (List D) := fun e => (f e).bind fun x => match seqOf x with
  | some xs => .ok (enumT 0 xs)
  | none => .bad
section
variable {X : Cx} {W : WX} {A : Nat → Prop} {a b c ex : Expr} {lo hi : Option Expr} {p p2 p3 pos tpos : Pos} {elts : List Expr} {kk : Nat}
theorem di_enum {f : DL.Env → Res D} (hg : Gl X "enumerate") (hm : X.mg "enumerate" = none) (ha : DE X W A a f) (hs : starEach [a] X.env = [(false, eval a X.env)] := by rfl) (he : starEach (a :: []) X.env = (false, eval a X.env) :: starEach [] X.env := by rfl) :
    DI X W A (.Tuple elts kk tpos) (.Call (.Name "enumerate" p) [a] [] pos) (iEnum f) :=
  (pi_e2 hg hm (pa_cons ha pa_nil he) hs).imp fun σ H Q ⟨e, G, E, q⟩ => ⟨e, G, E, q.split.imp fun d H1 G1 x1 q1 v rv => by
    cases hx : seqOf d with
    | none => rw [hx] at q1; exact q1.elim
    | some xs =>
      rw [hx] at q1
      obtain ⟨c1, t1, us1, rfl, s1, k1⟩ := seqOf_rep (Sub.refl G1) hx rv
      have up : ∀ {t : Bool} {c : Addr} {vs : List V}, SqB X.K t G1 c vs → SqB X.K t H1 c vs := fun {t c vs} h => by
        cases t with
        | true => exact x1.gh.sqt h
        | false => exact x1.gh.sql h
      exact ⟨c1, us1, t1, rfl, up s1, q1.here x1.gh _ (walk_e2 s1 k1)⟩⟩
/-! ### xs[lo:hi:step] -/
def pickL {α : Type} (xs : List α) (lo hi st : Option Int) : List α := (sliceRange (sliceBounds lo hi st xs.length).1 (sliceBounds lo hi st xs.length).2.1 (sliceBounds lo hi st xs.length).2.2).filterMap (xs[·]?)
theorem pick_arr (its : List Value) (lo hi st : Option Int) : slicePick its.toArray lo hi st = (pickL its lo hi st).toArray := by
  unfold slicePick pickL
  simp
theorem vals_pick {xs : List V} {us : List Value} (h : Vals xs us) (lo hi st : Option Int) : Vals (pickL xs lo hi st) (pickL us lo hi st) := by
  unfold pickL
  rw [h.length]
  generalize sliceRange _ _ _ = l
  induction l with
  | nil => exact .nil
  | cons i l ih =>
    rw [List.filterMap_cons, List.filterMap_cons]
    cases hx : xs[i]? with
    | none =>
      have : us[i]? = none := by
        rw [List.getElem?_eq_none_iff] at hx ⊢
        rw [← h.length]; exact hx
      rw [this]
      exact ih
    | some x =>
      obtain ⟨u, hu, ru⟩ := h.get hx
      rw [hu]
      exact .cons ru ih
theorem repl_pick {K : PySem.W.Frag} {G : Hp} {ds : List D} {vs : List V} (h : RepL K G ds vs) (lo hi st : Option Int) : RepL K G (pickL ds lo hi st) (pickL vs lo hi st) := by
  unfold pickL
  rw [h.length]
  generalize sliceRange _ _ _ = l
  induction l with
  | nil => rfl
  | cons i l ih =>
    rw [List.filterMap_cons, List.filterMap_cons]
    cases hx : ds[i]? with
    | none =>
      have : vs[i]? = none := by
        rw [List.getElem?_eq_none_iff] at hx ⊢
        rw [h.length]; exact hx
      rw [this]
      exact ih
    | some x =>
      obtain ⟨u, hu, ru⟩ := h.get hx
      rw [hu]
      exact .cons ru ih
theorem pick_le {α : Type} (xs : List α) (lo hi st : Option Int) : (pickL xs lo hi st).length ≤ xs.length := by
  have h := slicePick_size_le ((xs.map fun _ => Value.none).toArray) lo hi st
  rw [pick_arr, List.size_toArray, List.size_toArray, List.length_map] at h
  have e : (pickL (xs.map fun _ => Value.none) lo hi st).length = (pickL xs lo hi st).length := by
    unfold pickL
    rw [List.length_map]
    generalize sliceRange _ _ _ = l
    induction l with
    | nil => rfl
    | cons i l ih =>
      rw [List.filterMap_cons, List.filterMap_cons, List.getElem?_map]
      cases xs[i]? with
      | none => exact ih
      | some x => simpa using ih
  omega
def tSlS (K : PySem.W.Frag) (te : TE) (tl th tc : TO) : TE := fun σ H Q => te σ H fun x H1 => tl σ H1 fun l H2 => th σ H2 fun u H3 => tc σ H3 fun z H4 => ∃ a xs k, x = .ref a ∧ z = some k ∧ k ≠ 0 ∧ SqL K H4 a xs ∧
  ∀ q, H4 q = none → Q (.ref q) (upd H4 q (.lst (pickL xs l u (some k))))
theorem pe_sliceS {e c : Expr} {te : TE} {tl th tc : TO} (he : PE X e te) (hl : PO X lo tl) (hu : PO X hi th) (hc : PO X (some c) tc) : PE X (.Subscript e (.Slice lo hi (some c) p2) pos) (tSlS X.K te tl th tc) := by
  refine ⟨fun pins s σ H Q I h => ?_⟩
  refine Subscript_ (thn (he.run pins s σ H _ I h) fun v s1 ⟨x, H1, I1, r1, q1⟩ => ?_)
  refine wpAny_Slice (thn (hl.run pins s1 σ H1 _ I1 q1) fun vl s2 ⟨l, H2, I2, pl, q2⟩ => thn (hu.run pins s2 σ H2 _ I2 q2) fun vu s3 ⟨u, H3, I3, pu, q3⟩ => ?_)
  refine thn (hc.run pins s3 σ H3 _ I3 q3) fun vs s4 ⟨o, H4, I4, ps, a, xs, k, ex, eo, hk, hx, q⟩ => ?_
  subst ex eo
  cases r1
  have I5 : Inv X pins σ H4 { s4 with heap := s4.heap.push { cls := .type "slice", data := .fields #[vl, vu, vs] } } := I4.kept (t' := s4.toks) fun b ob q => Heap.get?_push_of_some _ q
  obtain ⟨its, r, ht, hz⟩ := I5.list hx
  have hlen := r.length
  show wpAny (model X.prog X.w) X.A (subscriptTail e (.Slice lo hi (some c) p2) (.ref a) (.ref s4.heap.objs.size)) (EP X pins σ Q) X.xe { s4 with heap := s4.heap.push { cls := .type "slice", data := .fields #[vl, vu, vs] } }
  refine tail_any (ops := [.ref a, .ref s4.heap.objs.size]) ht.isList.typeIs (PySem.slot_list_getitem.lookup) ?_ (by with_unfolding_all rfl)
  refine wpAny_getItem_list_slice ht.isList (Heap.IsSliceOf.new _ vl vu vs) pl pu ps (fun e0 => hk (Option.some.inj e0)) ?_ (by rw [List.size_toArray]; omega)
  rw [pick_arr]
  refine ⟨.ref _, _, I5.laid (t' := s4.toks) (o := .lst (pickL xs l u (some k))) (fun b ob q => Heap.get?_push_of_some _ q) (Nat.le_refl _) ?_, rfl, q _ (I5.hok.fresh (Nat.le_refl _))⟩
  exact ⟨Nat.le_trans (pick_le _ _ _ _) hz, _, 0, vals_pick r l u (some k), Heap.get?_push_size _ rfl⟩
/-- xs[lo:hi:k] of a list -/
def eCutS (f : DL.Env → Res D) (fl fh fk : DL.Env → Res (Option Int)) : DL.Env → Res D := fun e => (f e).bind fun d => (fl e).bind fun lo => (fh e).bind fun hi => (fk e).bind fun k => match d, k with
  | .lst xs, some k => if k = 0 then .bad else .ok (.lst (pickL xs lo hi (some k)))
  | _, _ => .bad
theorem de_cutS {f : DL.Env → Res D} {fl fh fk : DL.Env → Res (Option Int)} (ha : DR X W A a f) (hl : DO X W A lo fl) (hh : DO X W A hi fh) (hk : DO X W A (some c) fk) : DE X W A (.Subscript a (.Slice lo hi (some c) p2) pos) (eCutS f fl fh fk) :=
  (pe_sliceS ha hl hh hk).imp fun σ H Q ⟨e, G, E, p⟩ => ⟨e, G, E, p.split.imp fun d H1 G1 x1 p1 v rv => ⟨e, G1, E.ext x1, p1.split.imp fun l H2 G2 x2 p2 => ⟨e, G2, (E.ext x1).ext x2, p2.split.imp fun u H3 G3 x3 p3 => ⟨e, G3, ((E.ext x1).ext x2).ext x3, p3.split.imp fun z H4 G4 x4 p4 => by
    have rv := ((rv.mono x2.hh x2.gg).mono x3.hh x3.gg).mono x4.hh x4.gg
    have sg := x4.gh
    cases d with
    | lst ds =>
      cases z with
      | none => exact (show False from p4).elim
      | some k =>
        obtain ⟨q, vs, eq, s, r⟩ := rv
        by_cases k0 : k = 0
        · rw [show (match D.lst ds, some k with | .lst xs, some k => if k = 0 then Res.bad else .ok (.lst (pickL xs l u (some k))) | _, _ => .bad) = (Res.bad : Res D) from if_pos k0] at p4
          exact p4.elim
        · have e5 : (if k = 0 then Res.bad else Res.ok (D.lst (pickL ds l u (some k)))) = Res.ok (D.lst (pickL ds l u (some k))) := if_neg k0
          have p5 : PostG X.K X.mg _ H4 G4 (if k = 0 then Res.bad else Res.ok (D.lst (pickL ds l u (some k)))) _ := p4
          rw [e5] at p5
          refine ⟨q, vs, k, eq, rfl, k0, s, fun q2 hq => ?_⟩
          exact p5 _ _ (Ext.laid sg hq) _ ⟨q2, _, rfl, SqL.of upd_same, (repl_pick r l u (some k)).mono (Sub.upd (sg.free hq))⟩
    | _ => exact (show False by cases z <;> exact p4).elim⟩⟩⟩⟩
end
end DL

/-! list(reversed(l)) -/
namespace DL
open PySem PySem.Spec PyProof.Rows L2 RT
open PySem.Builtin.Int (intBits)
section
variable {prog : Program} {w : World} {A : Around} {E : Value → Shared → Prop} {s : Shared}
theorem rev_extend {R : Result → Shared → Prop} {it l S : Addr} {items : Array Value} {res : Value} {c₀ : Nat} (hh : A.handled = none) (hit : s.heap.IsRevIter it l ((items.size : Int) - 1)) (hl : s.heap.IsList l items) (hne : l ≠ it) (hSi : S ≠ it) (hSl : S ≠ l) (hn : items.size ≤ sizeLine)
    (hS : s.heap.get? S = some { cls := .type "list", data := .seq #[] c₀ })
    (hR : ∀ h' tk acc' c', (∀ b o, b ≠ S → b ≠ it → s.heap.get? b = some o → h'.get? b = some o) → h'.get? S = some { cls := .type "list", dict := none, data := .seq acc' c', slots := #[] } → ItemsOf (fun i v => items[items.size - 1 - i]? = some v) acc' items.size → R (.ok (.ret res)) { s with heap := h', toks := tk }) :
    wpAny (model prog w) A.in1 (Builtin.List.listExtendWith (.ref S) (.ref it) res)
      (fun fin s' => match fin with | .done f => R (.ok f) s' | .again c' => c'.quiet = true ∧ codeAny (model prog w) A c' R s') (fun e s' => R (.error e) s') s := by
  have W := (Walks.listRev (prog := prog) (w := w) (A := A.in1) hh it l hne items).toS
  have hSf : S ∉ [it, l] := by simp only [List.mem_cons, List.not_mem_nil, or_false, not_or]; exact ⟨hSi, hSl⟩
  have hT : s.TypeIs (.ref it) "list_reverseiterator" := Heap.IsRevIter.typeIs hit
  have h1 : Builtin.List.listSameRef (.ref S) (.ref it) = false := by simp [Builtin.List.listSameRef, hSi]
  unfold Builtin.List.listExtendWith
  refine wpAny_bind (wpAny_typeOf hT ?_)
  rw [if_neg (by rw [h1]; decide)]
  refine wpAny_bind (wpAny_pyIter_revIter hit ?_)
  refine wpAny_bind (wpAny_holding ?_)
  unfold Builtin.List.listLengthHint
  refine wpAny_bind (wpAny_specialOf hT nolen_lri ?_)
  show wpAny _ A.in1 (specialOf (Value.ref it) (Str.ofString "__length_hint__") >>= _) _ _ _
  refine wpAny_bind (wpAny_specialOf hT hint_lri ?_)
  generalize hid : ("list_reverseiterator.__length_hint__" : String) = id0
  wp_delta
  rw [show splitId id0 = some ("list_reverseiterator", "__length_hint__") from by subst hid; decide +kernel]
  subst hid
  refine wpAny_bind (wpAny_isInstance (b := true) hT (by rw [isSubtype_type]; kernel_rfl) ?_)
  refine wpAny_pure ?_
  rw [if_neg (by decide)]
  have e0 : ((items.size : Nat) : Int) - 1 - ((0 : Nat) : Int) = (items.size : Int) - 1 := by omega
  refine wpAny_pure ⟨plainId_quiet F.plain_extend_loop _, codeAny_extend_loopS W hn _ hSf _ items.size 0 _ _ _ rfl (Nat.zero_le _) ⟨Nat.zero_le _, by rw [e0]; exact hit, hl⟩ hS (ItemsOf.nil _) fun s' acc' c' hm hS' hacc => ?_⟩
  rw [Moved.eq_with hm]
  refine hR s'.heap s'.toks acc' c' (fun b o hb hb2 e => hm.heap b o (fun hmem => ?_) e) hS' hacc
  rcases List.mem_cons.mp hmem with e' | hmem
  · exact hb e'
  · exact hb2 (List.mem_singleton.mp hmem)
theorem call_list_rev {it l : Addr} {items : Array Value} {Q : Value → Shared → Prop} (hh : A.handled = none) (hit : s.heap.IsRevIter it l ((items.size : Int) - 1)) (hl : s.heap.IsList l items) (hne : l ≠ it) (hn : items.size ≤ sizeLine)
    (hQ : ∀ h' tk acc c', (∀ b o, b ≠ it → s.heap.get? b = some o → h'.get? b = some o) → h'.get? s.heap.objs.size = some { cls := .type "list", dict := none, data := .seq acc c', slots := #[] } → ItemsOf (fun i v => items[items.size - 1 - i]? = some v) acc items.size → Q (.ref s.heap.objs.size) { s with heap := h', toks := tk }) :
    wpAny (model prog w) A (call (.type "list") [.ref it]) Q E s := by
  obtain ⟨oi, hoi, _⟩ := id hit
  obtain ⟨ol, hol, _⟩ := id hl
  have hSi : s.heap.objs.size ≠ it := Nat.ne_of_gt (Heap.lt_size hoi)
  have hSl : s.heap.objs.size ≠ l := Nat.ne_of_gt (Heap.lt_size hol)
  refine callType_codes (Q₁ := fun obj s₁ => obj = .ref s.heap.objs.size ∧ s₁ = { s with heap := s.heap.push { cls := .type "list", data := .seq #[] } }) PySem.F.called_list (PySem.F.typeCall_list_1 _) PySem.F.entry_list_init
    (code_list_new _ ⟨rfl, rfl⟩) fun obj s₁ h₁ => ?_
  obtain ⟨rfl, rfl⟩ := h₁
  have hS : (s.heap.push { cls := .type "list", data := .seq #[] }).get? s.heap.objs.size = some { cls := .type "list", data := .seq #[] } := Heap.get?_push_size _ rfl
  refine ⟨⟨_, hS, rfl⟩, PySem.F.args_list_init_2 _ _, ?_⟩
  show wpAny _ _ (do let old ← Builtin.List.listItems (.ref s.heap.objs.size); Builtin.List.listUpdate (.ref s.heap.objs.size) (fun _ => #[]); letGo old.toList.reverse; Builtin.List.listExtendWith (.ref s.heap.objs.size) (.ref it) .none) _ _ _
  refine wpAny_bind ?_
  unfold Builtin.List.listItems
  refine wpAny_bind (wpAny_seqItems hS rfl (wpAny_pure ?_))
  show wpAny _ _ (updateSeq s.heap.objs.size (fun _ => #[]) >>= fun _ => letGo (#[] : Array Value).toList.reverse >>= fun _ => Builtin.List.listExtendWith (.ref s.heap.objs.size) (.ref it) .none) _ _ _
  refine wpAny_bind (wpAny_updateSeq hS rfl ?_)
  have hS₂ := Heap.get?_update_self (Obj.mapSeq (fun _ => (#[] : Array Value))) hS rfl
  have oth : ∀ b o, b ≠ s.heap.objs.size → s.heap.get? b = some o → ((s.heap.push { cls := .type "list", data := .seq #[] }).update s.heap.objs.size (Obj.mapSeq (fun _ => (#[] : Array Value)))).get? b = some o :=
    fun b o hb e => (Heap.get?_update_other _ _ (Ne.symm hb)).trans (Heap.get?_push_of_some _ e)
  refine wpAny_bind (wpAny_letGo ?_)
  refine rev_extend (A := A.in1) (items := items) hh (hit.at fun o e => oth _ _ (Ne.symm hSi) e) (hl.at fun o e => oth _ _ (Ne.symm hSl) e) hne hSi hSl hn hS₂ fun h' tk acc' c' hk hS' hacc => ?_
  exact ⟨rfl, hQ h' tk acc' c' (fun b o hb e => hk b o (Nat.ne_of_lt (Heap.lt_size e)) hb (oth b o (Nat.ne_of_lt (Heap.lt_size e)) e)) hS' hacc⟩
end
section
variable {X : Cx}
def tListRev (K : PySem.W.Frag) (te : TE) : TE := fun σ H Q => te σ H fun v H1 => ∃ (a : Addr) (xs : List V), v = .ref a ∧ SqL K H1 a xs ∧ ∀ q, H1 q = none → Q (.ref q) (upd H1 q (.lst xs.reverse))
theorem pe_listRev {e : Expr} {te : TE} {p p2 pos pos2 : Pos} (hc : X.calm = true) (hg : Gl X "list") (hm : X.mg "list" = none) (hg2 : Gl X "reversed") (hm2 : X.mg "reversed" = none) (he : PE X e te)
    (hs : starEach [e] X.env = (false, eval e X.env) :: starEach [] X.env := by rfl)
    (hs2 : starEach [.Call (.Name "reversed" p2) [e] [] pos2] X.env = (false, eval (.Call (.Name "reversed" p2) [e] [] pos2) X.env) :: starEach [] X.env := by rfl) :
    PE X (.Call (.Name "list" p) [.Call (.Name "reversed" p2) [e] [] pos2] [] pos) (tListRev X.K te) := by
  refine ⟨fun pins s σ H Q I h => ?_⟩
  refine Call_ (ld_blt I hg hm boot_list (PyProof.Rows.callWith_type1 (args_cons (Call_ (ld_blt I hg2 hm2 PyProof.Rows.boot_reversed (PyProof.Rows.callWith_type1 (args_cons (thn (he.run pins s σ H _ I h) fun u s1 ⟨v, H1, I1, r1, q1⟩ => args_nil ?_) hs) hs rfl))) hs2) hs2 rfl))
  obtain ⟨a, xs, ev, hq, q⟩ := q1
  subst ev
  obtain rfl : u = Value.ref a := r1
  obtain ⟨its, rv, p', hz⟩ := I1.list hq
  refine call_reversed_list p'.isList (args_nil ?_)
  have k0 : ∀ b o, s1.heap.get? b = some o → (s1.heap.push (revObj a ((its.toArray.size : Int) - 1))).get? b = some o := fun b o e => Heap.get?_push_of_some _ e
  have I2 : Inv X pins σ H1 { s1 with heap := s1.heap.push (revObj a ((its.toArray.size : Int) - 1)) } := I1.kept (t' := s1.toks) k0
  obtain ⟨f0, f1, f2, f3, f4, f5⟩ := I1.fpOk (H' := H1) (b := s1.heap.objs.size) (Nat.le_refl _) (I1.hok.fresh (Nat.le_refl _))
  have hl := p'.isList
  obtain ⟨ol, hol, _⟩ := id hl
  have hne : a ≠ s1.heap.objs.size := Nat.ne_of_lt (Heap.lt_size hol)
  have hn : its.toArray.size ≤ sizeLine := by rw [List.size_toArray, ← rv.length]; exact hz
  refine call_list_rev (s := { s1 with heap := s1.heap.push (revObj a ((its.toArray.size : Int) - 1)) }) (I1.ok.hd hc) ⟨_, Heap.get?_push_size _ rfl, rfl, rfl⟩ (hl.push _) hne hn fun h' tk acc c' hk hS hi => ?_
  have hsz : (s1.heap.push (revObj a ((its.toArray.size : Int) - 1))).objs.size = s1.heap.objs.size + 1 := Heap.size_push ..
  have hfp := I1.fpOk (H' := H1) (b := s1.heap.objs.size) (Nat.le_refl _) (I1.hok.fresh (Nat.le_refl _))
  have new : ObjOk X.prog X.w (upd H1 (s1.heap.objs.size + 1) (.lst xs.reverse)) h' (s1.heap.objs.size + 1) (.lst xs.reverse) :=
    ⟨by rw [List.length_reverse]; exact hz, acc.toList, c', vals_rev rv hi, by rw [Array.toArray_toList, ← hsz]; exact hS⟩
  have I3 : Inv X pins σ (upd H1 (s1.heap.objs.size + 1) (.lst xs.reverse)) { s1 with heap := h', toks := tk } :=
    I2.turnedNew (t' := tk) (ch := [s1.heap.objs.size]) (fun b o hb e => hk b o (fun z => hb (by simp [z])) e) (fun b hb => by rw [List.mem_singleton.mp hb]; exact hfp) (Nat.le_of_eq hsz) new
  rw [hsz]
  exact ⟨.ref (s1.heap.objs.size + 1), _, I3, rfl, q _ (I1.hok.fresh (Nat.le_add_right _ 1))⟩
/-- list(reversed(l)) -/
def dRev : D → Res D
  | .lst xs => .ok (.lst xs.reverse)
  | _ => .bad
theorem df_listRev {W : WX} {A : Nat → Prop} {f : DL.Env → Res D} {a : Expr} {p p2 pos pos2 : Pos} (hc : X.calm = true) (hg : Gl X "list") (hm : X.mg "list" = none) (hg2 : Gl X "reversed") (hm2 : X.mg "reversed" = none) (ha : DR X W A a f)
    (hs : starEach [a] X.env = (false, eval a X.env) :: starEach [] X.env := by rfl)
    (hs2 : starEach [.Call (.Name "reversed" p2) [a] [] pos2] X.env = (false, eval (.Call (.Name "reversed" p2) [a] [] pos2) X.env) :: starEach [] X.env := by rfl) :
    DF X W A (.Call (.Name "list" p) [.Call (.Name "reversed" p2) [a] [] pos2] [] pos) (e1 dRev f) :=
  (pe_listRev hc hg hm hg2 hm2 ha hs hs2).imp fun σ H Q ⟨e, G, E, q⟩ => ⟨e, G, E, q.split.imp fun d H1 G1 x1 q1 v rv => by
    cases d with
    | lst xs =>
      obtain ⟨b, vs, rfl, s, r⟩ := rv
      exact ⟨b, vs, rfl, s, fun l hl => q1 (upd H1 l (.lst vs.reverse)) G1 ⟨Sub.upd hl, Sub.refl _, x1.gh.trans (Sub.upd hl), fun b z => .inl z⟩ l (x1.hh.free hl) (x1.gh.free hl) ⟨_, upd_same, r.reverse⟩⟩
    | _ => exact (show False from q1).elim⟩
end
end DL

/-! {k: v, ..} with keys that are written out -/
namespace DL
open PySem PySem.Spec PyProof.Rows L2
open PySem.Builtin.Int (intBits)
def eVals : List (Key × (DL.Env → Res D)) → DL.Env → Res (List D)
  | [] => aNil
  | p :: r => aCons p.2 (eVals r)
/-- the pairs of keys and values -/
def zipK : List Key → List V → List (Key × V)
  | k :: ks, v :: vs => (k, v) :: zipK ks vs
  | _, _ => []
def kzipD : List Key → List D → List (D × D)
  | k :: ks, d :: ds => (keyD k, d) :: kzipD ks ds
  | _, _ => []
def eDisp (l : List (Key × (DL.Env → Res D))) : DL.Env → Res D := fun e => (eVals l e).bind fun ds => .ok (.dct false (kzipD (l.map (·.1)) ds))
section
variable {K : PySem.W.Frag} {mg : Str → Option Value} {W : WX} {A : Nat → Prop}
abbrev dispT (K : PySem.W.Frag) (mg : Str → Option Value) (W : WX) (A : Nat → Prop) (p : Key × (DL.Env → Res D)) : TE × TE := (tC (kV p.1), tD K mg W A p.2)
theorem tPairs_of : ∀ (l : List (Key × (DL.Env → Res D))) (e : DL.Env) (σ : L2.St) (H G : Hp) (Q : List (V × V) → Hp → Prop), EnvG K A σ e H G → PostG K mg (fun c o H' => W c o σ H') H G (eVals l e) (fun ds H' G' => ∀ vs, RepL K G' ds vs → Q ((zipK (l.map (·.1)) vs).map fun kv => (kV kv.1, kv.2)) H') → tPairs (l.map (dispT K mg W A)) σ H Q
  | [], e, σ, H, G, Q, E, p => p.here E.sub [] rfl
  | q :: l, e, σ, H, G, Q, E, p => by
    show tD K mg W A q.2 σ H fun y H2 => tPairs (l.map (dispT K mg W A)) σ H2 fun ps H3 => Q ((kV q.1, y) :: ps) H3
    refine ⟨e, G, E, (PostG.split p).imp fun d H1 G1 x1 p1 v rv => ?_⟩
    refine tPairs_of l e σ H1 G1 _ (E.ext x1) ((PostG.split p1).imp fun ds H2 G2 x2 p2 vs rs => ?_)
    exact p2.here x2.gh (v :: vs) (.cons (rv.mono x2.gg) rs)
theorem zipK_len : ∀ (ks : List Key) (vs : List V), (zipK ks vs).length ≤ ks.length
  | [], _ => by simp [zipK]
  | _ :: _, [] => by simp [zipK]
  | k :: ks, v :: vs => by
    have := zipK_len ks vs
    rw [zipK, List.length_cons, List.length_cons]; omega
theorem zipK_keys : ∀ (ks : List Key) (vs : List V), ∀ k, k ∈ (zipK ks vs).map (·.1) → k ∈ ks
  | [], _, k, h => by simp [zipK] at h
  | _ :: _, [], k, h => by simp [zipK] at h
  | a :: ks, v :: vs, k, h => by
    rw [zipK, List.map_cons, List.mem_cons] at h
    rcases h with h | h
    · rw [h]; exact List.mem_cons_self
    · exact List.mem_cons_of_mem _ (zipK_keys ks vs k h)
theorem putK_new : ∀ {kvs : List (Key × V)} {k : Key} (v : V), k ∉ kvs.map (·.1) → putK kvs k v = kvs ++ [(k, v)] := by
  intro kvs k v h
  unfold putK
  rw [if_neg]
  intro z
  rw [List.any_eq_true] at z
  obtain ⟨p, hp, e⟩ := z
  exact h (List.mem_map.mpr ⟨p, hp, by simpa using e⟩)
theorem mergeK_new : ∀ (more kvs : List (Key × V)), (∀ k, k ∈ kvs.map (·.1) → k ∉ more.map (·.1)) → (more.map (·.1)).Nodup → mergeK kvs more = kvs ++ more
  | [], kvs, _, _ => by show kvs = _; rw [List.append_nil]
  | p :: more, kvs, h, nd => by
    rw [List.map_cons, List.nodup_cons] at nd
    show mergeK (putK kvs p.1 p.2) more = _
    have hp : p.1 ∉ kvs.map (·.1) := fun z => h _ z (by simp)
    rw [putK_new _ hp, mergeK_new more _ (fun k hk z => ?_) nd.2]
    · simp
    · rw [List.map_append, List.mem_append] at hk
      rcases hk with hk | hk
      · exact h k hk (by rw [List.map_cons]; exact List.mem_cons_of_mem _ z)
      · have : k = p.1 := by simpa using hk
        exact nd.1 (this ▸ z)
theorem zipK_nodup : ∀ (ks : List Key) (vs : List V), ks.Nodup → ((zipK ks vs).map (·.1)).Nodup
  | [], _, _ => by simp [zipK]
  | _ :: _, [], _ => by simp [zipK]
  | k :: ks, v :: vs, h => by
    rw [List.nodup_cons] at h
    rw [zipK, List.map_cons, List.nodup_cons]
    exact ⟨fun z => h.1 (zipK_keys ks vs _ z), zipK_nodup ks vs h.2⟩
theorem zip_rep {G : Hp} : ∀ (ks : List Key) (ds : List D) (vs : List V), RepL K G ds vs → (kzipD ks ds).map (·.1) = (zipK ks vs).map (fun p => keyD p.1) ∧ RepV K G (kzipD ks ds) ((zipK ks vs).map (·.2))
  | [], _, _, _ => ⟨rfl, rfl⟩
  | k :: ks, [], vs, r => by
    cases (show vs = [] from r)
    exact ⟨rfl, rfl⟩
  | k :: ks, d :: ds, vs, r => by
    obtain ⟨v, r', rfl, rv, rr⟩ := r
    obtain ⟨a, b⟩ := zip_rep ks ds r' rr
    refine ⟨?_, v, (zipK ks r').map (·.2), rfl, rv, b⟩
    show keyD k :: (kzipD ks ds).map (·.1) = keyD k :: (zipK ks r').map (fun p => keyD p.1)
    rw [a]
end
section
variable {X : Cx} {W : WX} {A : Nat → Prop} {pos : Pos}
/-- the pairs of the display are these -/
abbrev DPs (X : Cx) (W : WX) (A : Nat → Prop) (pos : Pos) (keys : List (Option Expr)) (values : List Expr) (l : List (Key × (DL.Env → Res D))) : Prop := PPs X pos keys values (l.map (dispT X.K X.mg W A))
theorem dps_nil : DPs X W A pos [] [] [] := pps_nil
theorem dps_str {x : Str} {v : Expr} {ks : List (Option Expr)} {vs : List Expr} {f : DL.Env → Res D} {l : List (Key × (DL.Env → Res D))} {e : Expr} (hk : PE X e (tC (.str x))) (hv : DE X W A v f) (hr : DPs X W A pos ks vs l) : DPs X W A pos (some e :: ks) (v :: vs) ((.inr x, f) :: l) :=
  pps_cons hk hv hr
theorem df_disp {keys : List (Option Expr)} {values : List Expr} {l : List (Key × (DL.Env → Res D))} (h : DPs X W A pos keys values l) (hall : keys.all (·.isSome) = true) (hl : keys.length = values.length) (h0 : keys ≠ []) (h15 : keys.length ≤ 15) (hn : (l.map (·.1)).Nodup) (hl2 : l.length ≤ 15) : DF X W A (.Dict keys values pos) (eDisp l) :=
  (pe_disp h hall hl h0 h15).imp fun σ H Q ⟨e, G, E, q⟩ p hp => by
    have x0 : Ext H G (upd H p (.dK [])) G := ⟨Sub.upd hp, Sub.refl _, E.sub.trans (Sub.upd hp), fun b z => .inl z⟩
    refine tPairs_of l e σ _ G _ (E.ext x0) (((PostG.split q).ext x0).ifok fun ds H2 G2 hk x2 p2 vs rs => ?_)
    have hp2 : H2 p = some (.dK []) := x2.hh p _ upd_same
    have gp : G p = none := E.sub.free hp
    have gp2 : G2 p = none := by
      cases z : G2 p with
      | none => rfl
      | some o =>
        rcases x2.new p (by rw [z]; exact fun h => by cases h) with w | w
        · exact absurd gp w
        · exfalso
          unfold Fr1 at w
          rw [upd_same] at w
          rcases w with w | ⟨_, w⟩
          · cases w
          · cases w
    refine ⟨hp2, zipK (l.map (·.1)) vs, rfl, Nat.le_trans (zipK_len _ _) (by rw [List.length_map]; exact hl2), ?_⟩
    have em : mergeK [] (zipK (l.map (·.1)) vs) = zipK (l.map (·.1)) vs := by
      rw [mergeK_new _ [] (fun k hk => by cases hk) (zipK_nodup _ _ hn), List.nil_append]
    rw [em]
    obtain ⟨z1, z2⟩ := zip_rep (l.map (·.1)) ds vs rs
    have sub : Sub H (upd H2 p (.dK (zipK (l.map (·.1)) vs))) := fun b o hb => by
      have ne : b ≠ p := fun z => by rw [z, hp] at hb; cases hb
      rw [upd_ne ne]
      exact x2.hh b o (by rw [upd_ne ne]; exact hb)
    have gsub : Sub G2 (upd H2 p (.dK (zipK (l.map (·.1)) vs))) := fun b o hb => by
      have ne : b ≠ p := fun z => by rw [z, gp2] at hb; cases hb
      rw [upd_ne ne]
      exact x2.gh b o hb
    have ext : Ext H G (upd H2 p (.dK (zipK (l.map (·.1)) vs))) G2 := ⟨sub, x2.gg, gsub, fun b hb => (x2.new b hb).imp id fun z => z.back (Sub.upd hp)⟩
    unfold eDisp at q
    rw [hk] at q
    exact q _ _ ext p hp gp2 (.inl ⟨rfl, _, upd_same, z1, z2⟩)
end
end DL

/-! dict(d); dicts with number and text keys compared -/
namespace DL
open PySem PySem.Spec PyProof.Rows L2
open PySem.Builtin.Int (intBits)
section
variable {X : Cx} {W : WX}
/-- dict(d) -/
def dDict : D → Res D
  | .dct false kvs => .ok (.dct false kvs)
  | _ => .bad
theorem c1_dict : Call1F X W (.type "dict") dDict := by
  refine ⟨_, call_dictD, fun σ H G x dx Q sg rx p => ?_⟩
  cases dx with
  | dct t kvs =>
    obtain ⟨a, e, h⟩ := rx
    subst e
    rcases h with ⟨rfl, ps, h1, h2, h3⟩ | ⟨rfl, ps, h1, h2, h3⟩
    · refine ⟨a, ps, rfl, h1, fun l hl => ?_⟩
      exact (show PostG X.K X.mg _ H G (Res.ok (D.dct false kvs)) _ from p) (upd H l (.dK ps)) G ⟨Sub.upd hl, Sub.refl _, sg.trans (Sub.upd hl), fun b z => .inl z⟩ l hl (sg.free hl) (.inl ⟨rfl, ps, upd_same, h2, h3⟩)
    · exact (show False from p).elim
  | _ => exact (show False from p).elim
/-! ### == -/
def D.flat : D → Bool
  | .int _ => true
  | .str _ => true
  | .bl _ => true
  | _ => false
open Classical in
/-- equal dicts (only those are served) -/
noncomputable def dEqD : D → D → Res D := fun x y => match x, y with
  | .dct false a, .dct false b => if a.length = b.length ∧ ∀ p ∈ a, dFind b p.1 = some p.2 ∧ p.2.flat = true then .ok (.bl true) else .bad
  | _, _ => .bad
def rEqDR : R2 := fun x y H Q => ∃ a b ks ls, x = .ref a ∧ y = .ref b ∧ Rd H a (.dK ks) ∧ Rd H b (.dK ls) ∧ ks.length = ls.length ∧ (∀ p ∈ ks, valV ls p.1 = some p.2 ∧ flatB p.2 = true) ∧ Q (.bl true) H
theorem op_eq_dictR (hu : X.A.units < cLine) : OpR X (compareOp .Eq) rEqDR := by
  intro pins s σ H x y v u Q I rx ry h
  obtain ⟨a, b, ks, ls, rfl, rfl, ea, eb, hlen, hp, q⟩ := h
  obtain rfl : v = Value.ref a := rx
  obtain rfl : u = Value.ref b := ry
  obtain ⟨_, ya, va, ra, da⟩ := dk_rd I.hok ea
  obtain ⟨_, yb, vb, rb, db⟩ := dk_rd I.hok eb
  have hl : va.length = vb.length := by rw [← ra.length, ← rb.length]; exact hlen
  exact PySem.W.keq_eq (knd := mixKind X.prog X.w) (r := true) ya yb da db hu (fun _ => hits_all rb ra hp) (fin_bl I q (by simp [hl]))
theorem flat_rep {K : PySem.W.Frag} {G : Hp} {d : D} {v w : V} (h : d.flat = true) (r : Rep K G d v) (r2 : Rep K G d w) : v = w ∧ flatB v = true := by
  cases d with
  | int i => cases (show v = .int i from r); cases (show w = .int i from r2); exact ⟨rfl, rfl⟩
  | str i => cases (show v = .str i from r); cases (show w = .str i from r2); exact ⟨rfl, rfl⟩
  | bl i => cases (show v = .bl i from r); cases (show w = .bl i from r2); exact ⟨rfl, rfl⟩
  | _ => cases h
theorem repv_mem {K : PySem.W.Frag} {G : Hp} : ∀ {kvs : List (D × D)} {ps : List (Key × V)}, kvs.map (·.1) = ps.map (fun p => keyD p.1) → RepV K G kvs (ps.map (·.2)) → ∀ p ∈ ps, ∃ d, (keyD p.1, d) ∈ kvs ∧ Rep K G d p.2
  | [], [], _, _, p, h => by cases h
  | [], _ :: _, h, _, _, _ => by simp at h
  | _ :: _, [], h, _, _, _ => by simp at h
  | (k, d) :: kvs, q :: ps, h, r, p, hp => by
    rw [List.map_cons, List.map_cons, List.cons.injEq] at h
    obtain ⟨v, r', e, rv, rr⟩ := r
    rw [List.map_cons, List.cons.injEq] at e
    rw [List.mem_cons] at hp
    rcases hp with rfl | hp
    · refine ⟨d, ?_, by rw [e.1]; exact rv⟩
      have : k = keyD p.1 := h.1
      rw [this]
      exact List.mem_cons_self
    · rw [← e.2] at rr
      obtain ⟨d', a, b⟩ := repv_mem h.2 rr p hp
      exact ⟨d', List.mem_cons_of_mem _ a, b⟩
theorem od_eqD (hu : X.A.units < cLine) : OpD X W (compareOp .Eq) dEqD := by
  refine ⟨_, op_eq_dictR hu, fun σ H G x y dx dy Q sg rx ry p => ?_⟩
  cases dx with
  | dct t ka =>
    cases dy with
    | dct t2 kb =>
      obtain ⟨a, rfl, h⟩ := rx
      obtain ⟨b, rfl, h'⟩ := ry
      rcases h with ⟨rfl, ps, h1, h2, h3⟩ | ⟨rfl, ps, h1, h2, h3⟩
      · rcases h' with ⟨rfl, ps', g1, g2, g3⟩ | ⟨rfl, ps', g1, g2, g3⟩
        · dsimp only [dEqD] at p
          by_cases hc : ka.length = kb.length ∧ ∀ p ∈ ka, dFind kb p.1 = some p.2 ∧ p.2.flat = true
          · rw [if_pos hc] at p
            have l1 := congrArg List.length h2
            have l2 := congrArg List.length g2
            rw [List.length_map, List.length_map] at l1 l2
            refine ⟨a, b, ps, ps', rfl, rfl, h1, g1, by rw [← l1, ← l2]; exact hc.1, fun q hq => ?_, PostG.val (d := .bl true) p sg rfl⟩
            obtain ⟨d, m1, m2⟩ := repv_mem h2 h3 q hq
            obtain ⟨f1, f2⟩ := hc.2 _ m1
            rcases repv_find (f := keyD) (fun _ _ => keyD_inj) g2 g3 q.1 with ⟨z, _⟩ | ⟨d', v, z1, z2, z3⟩
            · rw [z] at f1; cases f1
            · rw [z1] at f1
              cases f1
              obtain ⟨e1, e2⟩ := flat_rep f2 m2 z3
              exact ⟨by rw [z2, e1], e2⟩
          · rw [if_neg hc] at p; exact p.elim
        · exact (show False from p).elim
      · cases t2 <;> exact (show False from p).elim
    | _ => cases t <;> exact (show False from p).elim
  | _ => cases dy <;> exact (show False from p).elim
end
theorem _root_.L2.Room.hu0 {k : Nat} {A : Around} (h : Room k A) : A.units < cLine := by have := h.un; omega
end DL

/-! max, min of a list of numbers -/
namespace DL
open PySem PySem.Spec PyProof.Rows L2
open PySem.Builtin.Int (intBits)
def maxI : List Int → Int
  | [] => 0
  | x :: r => match r with
    | [] => x
    | _ :: _ => max x (maxI r)
def minI : List Int → Int
  | [] => 0
  | x :: r => match r with
    | [] => x
    | _ :: _ => min x (minI r)
theorem maxI_ok : ∀ {ns : List Int}, ns ≠ [] → maxI ns ∈ ns ∧ ∀ y ∈ ns, y ≤ maxI ns
  | [], h => absurd rfl h
  | [x], _ => ⟨List.mem_cons_self, fun y h => by rw [List.mem_singleton.mp h]; exact Int.le_refl _⟩
  | x :: y :: r, _ => by
    obtain ⟨a, b⟩ := maxI_ok (ns := y :: r) (by simp)
    show max x (maxI (y :: r)) ∈ _ ∧ ∀ z ∈ _, z ≤ max x (maxI (y :: r))
    refine ⟨?_, fun z hz => ?_⟩
    · rcases Int.le_total x (maxI (y :: r)) with h | h
      · rw [Int.max_eq_right h]; exact List.mem_cons_of_mem _ a
      · rw [Int.max_eq_left h]; exact List.mem_cons_self
    · rw [List.mem_cons] at hz
      rcases hz with rfl | hz
      · omega
      · have := b z hz; omega
theorem minI_ok : ∀ {ns : List Int}, ns ≠ [] → minI ns ∈ ns ∧ ∀ y ∈ ns, minI ns ≤ y
  | [], h => absurd rfl h
  | [x], _ => ⟨List.mem_cons_self, fun y h => by rw [List.mem_singleton.mp h]; exact Int.le_refl _⟩
  | x :: y :: r, _ => by
    obtain ⟨a, b⟩ := minI_ok (ns := y :: r) (by simp)
    show min x (minI (y :: r)) ∈ _ ∧ ∀ z ∈ _, min x (minI (y :: r)) ≤ z
    refine ⟨?_, fun z hz => ?_⟩
    · rcases Int.le_total x (minI (y :: r)) with h | h
      · rw [Int.min_eq_left h]; exact List.mem_cons_self
      · rw [Int.min_eq_right h]; exact List.mem_cons_of_mem _ a
    · rw [List.mem_cons] at hz
      rcases hz with rfl | hz
      · omega
      · have := b z hz; omega
def dMaxL : D → Res D
  | .lst xs => match D.ints xs with
    | some (n :: ns) => .ok (.int (maxI (n :: ns)))
    | _ => .bad
  | _ => .bad
def dMinL : D → Res D
  | .lst xs => match D.ints xs with
    | some (n :: ns) => .ok (.int (minI (n :: ns)))
    | _ => .bad
  | _ => .bad
theorem ints_rep {K : PySem.W.Frag} {G : Hp} : ∀ {ds : List D} {ns : List Int} {vs : List V}, D.ints ds = some ns → RepL K G ds vs → vs = ns.map V.int
  | [], ns, vs, h, r => by cases h; exact r
  | d :: ds, ns, vs, h, r => by
    obtain ⟨v, r', rfl, a, b⟩ := r
    cases d with
    | int i =>
      have h' : (D.ints ds).map (fun t => i :: t) = some ns := h
      cases hi : D.ints ds with
      | none => rw [hi] at h'; cases h'
      | some t =>
        rw [hi] at h'
        cases h'
        rw [show v = .int i from a, ints_rep hi b]
        rfl
    | _ => cases h
section
variable {X : Cx} {W : WX}
theorem c1_maxL (hc : X.calm = true) : Call1 X W (.builtin "max") dMaxL := by
  refine ⟨_, cr_max hc, fun σ H G x dx Q sg rx p => ?_⟩
  cases dx with
  | lst ds =>
    obtain ⟨q, vs, e, s, r⟩ := rx
    subst e
    dsimp only [dMaxL] at p
    cases hi : D.ints ds with
    | none => rw [hi] at p; exact p.elim
    | some ns =>
      rw [hi] at p
      cases ns with
      | nil => exact p.elim
      | cons n ns =>
        have ev := ints_rep hi r
        subst ev
        obtain ⟨a, b⟩ := maxI_ok (ns := n :: ns) (by simp)
        refine ⟨q, n :: ns, rfl, s, by simp, fun m m1 m2 => ?_⟩
        have e : m = maxI (n :: ns) := Int.le_antisymm (b m m1) (m2 _ a)
        rw [e]
        exact PostG.val (d := .int (maxI (n :: ns))) p sg rfl
  | _ => exact (show False from p).elim
theorem c1_minL (hc : X.calm = true) : Call1 X W (.builtin "min") dMinL := by
  refine ⟨_, cr_min hc, fun σ H G x dx Q sg rx p => ?_⟩
  cases dx with
  | lst ds =>
    obtain ⟨q, vs, e, s, r⟩ := rx
    subst e
    dsimp only [dMinL] at p
    cases hi : D.ints ds with
    | none => rw [hi] at p; exact p.elim
    | some ns =>
      rw [hi] at p
      cases ns with
      | nil => exact p.elim
      | cons n ns =>
        have ev := ints_rep hi r
        subst ev
        obtain ⟨a, b⟩ := minI_ok (ns := n :: ns) (by simp)
        refine ⟨q, n :: ns, rfl, s, by simp, fun m m1 m2 => ?_⟩
        have e : m = minI (n :: ns) := Int.le_antisymm (m2 _ a) (b m m1)
        rw [e]
        exact PostG.val (d := .int (minI (n :: ns))) p sg rfl
  | _ => exact (show False from p).elim
end
end DL

namespace DL
open PySem PySem.Spec PyProof.Rows L2
open PySem.Builtin.Int (intBits)

/-- a bound that range takes -/
def Rg (n : Int) : Prop := -(2 ^ 62) ≤ n ∧ n < 2 ^ 62
theorem Rg.of {n : Int} (h : -1000000000 ≤ n) (k : n ≤ 1000000000) : Rg n := ⟨by omega, by omega⟩
open Classical in
noncomputable def range1D : D → Res (List D) := fun d => match d with
  | .int n => if Rg n then .ok (rangeD 0 n) else .bad
  | _ => .bad
open Classical in
noncomputable def range2D : D → D → Res (List D) := fun d d2 => match d, d2 with
  | .int m, .int n => if Rg m ∧ Rg n then .ok (rangeD m n) else .bad
  | _, _ => .bad
@[simp] theorem range1D_int (n : Int) (h : Rg n) : range1D (.int n) = .ok (rangeD 0 n) := if_pos h
@[simp] theorem range2D_int (m n : Int) (h : Rg m) (k : Rg n) : range2D (.int m) (.int n) = .ok (rangeD m n) := if_pos ⟨h, k⟩
theorem iRange1_is (f : DL.Env → Res D) (e : DL.Env) : iRange1 f e = (f e).bind range1D := by
  unfold iRange1
  congr 1
  funext d
  cases d with
  | int n =>
    dsimp only [range1D]
    by_cases h : Rg n
    · rw [if_pos (show -(2 ^ 62) ≤ n ∧ n < 2 ^ 62 from h), if_pos h]
    · rw [if_neg (show ¬ (-(2 ^ 62) ≤ n ∧ n < 2 ^ 62) from h), if_neg h]
  | _ => rfl
theorem iRange2_is (f g : DL.Env → Res D) (e : DL.Env) : iRange2 f g e = (f e).bind fun d => (g e).bind fun d2 => range2D d d2 := by
  unfold iRange2
  congr 1
  funext d
  congr 1
  funext d2
  cases d with
  | int m =>
    cases d2 with
    | int n =>
      dsimp only [range2D]
      by_cases h : Rg m ∧ Rg n
      · rw [if_pos h, if_pos ⟨h.1.1, h.1.2, h.2.1, h.2.2⟩]
      · rw [if_neg h, if_neg fun z => h ⟨⟨z.1, z.2.1⟩, z.2.2.1, z.2.2.2⟩]
    | _ => rfl
  | _ => rfl
/-! ### a body's reckoning, step by step -/
section
variable (al : List Nat) (i : Nat) (e : DL.Env) (f fa fb fc : DL.Env → Res D) (ft fu : DL.Env → Res Bool) (g h : DL.Env → Out) (fs : DL.Env → Res (List D)) (d : D) (ds : List D) (op : D → D → Res D) (op1 : D → Res D)
@[simp] theorem eVarS_app : eVarS i e = (match e[i]? with | some (some (d, false)) => .ok d | _ => .bad) := Eq.trans rfl rfl
@[simp] theorem eVar_app : eVar i e = (match e[i]? with | some (some (d, _)) => .ok d | _ => .bad) := Eq.trans rfl rfl
@[simp] theorem eC_app : eC d e = .ok d := Eq.trans rfl rfl
@[simp] theorem eOp_app : eOp op fa fb e = (fa e).bind fun x => (fb e).bind fun y => op x y := Eq.trans rfl rfl
@[simp] theorem e1_app : e1 op1 f e = (f e).bind op1 := Eq.trans rfl rfl
@[simp] theorem eNeg_app : eNeg f e = (f e).bind fun x => (match x with | .int i => .ok (.int (-i)) | _ => .bad) := Eq.trans rfl rfl
@[simp] theorem eTup_app : eTup fs e = (fs e).bind fun ds => .ok (.tup ds) := Eq.trans rfl rfl
@[simp] theorem eLst_app : eLst fs e = (fs e).bind fun ds => .ok (.lst ds) := Eq.trans rfl rfl
@[simp] theorem aNil_app : aNil e = .ok [] := Eq.trans rfl rfl
@[simp] theorem aCons_app : aCons f fs e = (f e).bind fun d => (fs e).bind fun ds => .ok (d :: ds) := Eq.trans rfl rfl
@[simp] theorem eCall_app (F : List D → Res D) : eCall F fs e = (fs e).bind F := Eq.trans rfl rfl
@[simp] theorem eAnd_app : eAnd fa fb e = (fa e).bind fun x => (D.asB x).bind fun b => if b = true then fb e else .ok (.bl false) := Eq.trans rfl rfl
@[simp] theorem eOr_app : eOr fa fb e = (fa e).bind fun x => (D.asB x).bind fun b => if b = true then .ok (.bl true) else fb e := Eq.trans rfl rfl
@[simp] theorem eNot_app : eNot f e = (f e).bind fun x => (D.asB x).bind fun b => .ok (.bl (!b)) := Eq.trans rfl rfl
@[simp] theorem eIf_app : eIf ft fa fb e = (ft e).bind fun b => if b = true then fa e else fb e := Eq.trans rfl rfl
@[simp] theorem bTest_app : bTest op fa fb e = (fa e).bind fun x => (fb e).bind fun y => (op x y).bind D.asB := Eq.trans rfl rfl
@[simp] theorem bTruth_app : bTruth f e = (f e).bind D.truth := Eq.trans rfl rfl
@[simp] theorem bAnd_app : bAnd ft fu e = (ft e).bind fun b => if b = true then fu e else .ok false := Eq.trans rfl rfl
@[simp] theorem bOr_app : bOr ft fu e = (ft e).bind fun b => if b = true then .ok true else fu e := Eq.trans rfl rfl
@[simp] theorem bNot_app : bNot ft e = (ft e).bind fun b => .ok (!b) := Eq.trans rfl rfl
@[simp] theorem bVal_app : bVal f e = (f e).bind D.asB := Eq.trans rfl rfl
@[simp] theorem oNone_app : oNone e = .ok none := Eq.trans rfl rfl
@[simp] theorem oSome_app : oSome f e = (f e).bind fun d => (match d with | .int i => .ok (some i) | _ => .bad) := Eq.trans rfl rfl
@[simp] theorem eCut_app (fl fh : DL.Env → Res (Option Int)) : eCut f fl fh e = (f e).bind fun d => (fl e).bind fun lo => (fh e).bind fun hi => dCut lo hi d := Eq.trans rfl rfl
@[simp] theorem iSeq_app : iSeq f e = (f e).bind fun d => (match d with | .lst xs => .ok xs | .tup xs => .ok xs | .con xs => .ok xs | _ => .bad) := Eq.trans rfl rfl
@[simp] theorem iRange1_app : iRange1 f e = (f e).bind range1D := iRange1_is f e
@[simp] theorem iRange2_app : iRange2 fa fb e = (fa e).bind fun d => (fb e).bind fun d2 => range2D d d2 := iRange2_is fa fb e
@[simp] theorem iRange3_app : iRange3 fa fb fc e = (fa e).bind fun x => (fb e).bind fun y => (fc e).bind fun z => r3D x y z := Eq.trans rfl rfl
@[simp] theorem r3D_int (i j c : Int) : r3D (.int i) (.int j) (.int c) = rg3 i j c := Eq.trans rfl rfl
@[simp] theorem sTry_app (hh : String → Option Bool) : sTry hh g h e = (match g e with | .ex c fs' e' => (match hh c with | some true => noEx (h e') | some false => .ex c fs' e' | none => .bad) | r => r) := Eq.trans rfl rfl
@[simp] theorem sTryAs_app (hh : String → Option Bool) (fs : Addr → String → DL.Env → Out) : sTryAs i hh g fs e = (match g e with | .ex c fs' e' => (match hh c with | some true => if fs' = [] then unif (fun a => clrN i (fs a c (e'.set i (some (.obj (.ref a), false))))) else .bad | some false => .ex c fs' e' | none => .bad) | r => r) := Eq.trans rfl rfl
@[simp] theorem clrN_nx : clrN i (.nx e) = .nx (e.set i none) := Eq.trans rfl rfl
@[simp] theorem clrN_rt : clrN i (.rt d) = .rt d := Eq.trans rfl rfl
@[simp] theorem clrN_ro : clrN i (.ro d) = .ro d := Eq.trans rfl rfl
@[simp] theorem unif_const (r : Out) : (unif fun _ => r) = r := unif_of fun _ => rfl
@[simp] theorem eIsE_app (a : Addr) (o : Option Bool) : eIsE i a o e = (match e[i]? with | some (some (.obj (.ref a'), false)) => if a' = a then (match o with | some b => .ok (.bl b) | none => .bad) else .bad | _ => .bad) := Eq.trans rfl rfl
@[simp] theorem dStr_bl (b : Bool) : dStr (.bl b) = .ok (.str (if b = true then "True" else "False")) := Eq.trans rfl rfl
@[simp] theorem noEx_nx : noEx (.nx e) = .nx e := Eq.trans rfl rfl
@[simp] theorem noEx_rt : noEx (.rt d) = .rt d := Eq.trans rfl rfl
@[simp] theorem noEx_ro : noEx (.ro d) = .ro d := Eq.trans rfl rfl
@[simp] theorem sRetO_app : sRetO i e = (match e[i]? with | some (some (d, true)) => .ro d | some (some (d, false)) => .rt d | _ => .bad) := Eq.trans rfl rfl
@[simp] theorem sRetF_app : sRetF al f e = (match f e with | .ok d => .ro d | .exc c fs => .ex c fs (fz al e) | .bad => .bad) := by unfold sRetF sE; cases f e <;> rfl
@[simp] theorem sSkip_app : sSkip e = .nx e := Eq.trans rfl rfl
@[simp] theorem sBreak_app : sBreak e = .bk e := Eq.trans rfl rfl
@[simp] theorem sCont_app : sCont e = .ct e := Eq.trans rfl rfl
@[simp] theorem sRetN_app : sRetN e = .rt .non := Eq.trans rfl rfl
@[simp] theorem sRaise_app (c : String) : sRaise c e = .ex c [] e := Eq.trans rfl rfl
@[simp] theorem sSeq_app : sSeq g h e = (match g e with | .nx e' => h e' | r => r) := Eq.trans rfl rfl
@[simp] theorem sIf_app : sIf al ft g h e = (match ft e with | .ok b => if b = true then g (fz al e) else h (fz al e) | .exc c fs => .ex c fs (fz al e) | .bad => .bad) := by unfold sIf sE; cases ft e <;> rfl
@[simp] theorem sRet_app : sRet al f e = (match f e with | .ok d => .rt d | .exc c fs => .ex c fs (fz al e) | .bad => .bad) := by unfold sRet sE; cases f e <;> rfl
@[simp] theorem sDrop_app : sDrop al f e = (match f e with | .ok d => .nx (fz al e) | .exc c fs => .ex c fs (fz al e) | .bad => .bad) := by unfold sDrop sE; cases f e <;> rfl
@[simp] theorem sSet_app : sSet al i f e = (match f e with | .ok d => .nx ((fz al e).set i (some (d, false))) | .exc c fs => .ex c fs (fz al e) | .bad => .bad) := by unfold sSet sE; cases f e <;> rfl
@[simp] theorem sSetF_app : sSetF al i f e = (match f e with | .ok d => .nx ((fz al e).set i (some (d, true))) | .exc c fs => .ex c fs (fz al e) | .bad => .bad) := by unfold sSetF sE; cases f e <;> rfl
@[simp] theorem sAsg_app (p : Pat) : sAsg al p f e = (match f e with | .ok d => (match p.bind d (fz al e) with | .ok e' => .nx e' | _ => .bad) | .exc c fs => .ex c fs (fz al e) | .bad => .bad) := by unfold sAsg sE; cases f e <;> rfl
@[simp] theorem sPar_app (j : Nat) : sPar al i j fs e = (match fs e with | .ok ds => (match ds with | [x, y] => .nx (((fz al e).set i (some (x, false))).set j (some (y, false))) | _ => .bad) | .exc c fs => .ex c fs (fz al e) | .bad => .bad) := by unfold sPar sE; cases fs e <;> rfl
@[simp] theorem sFor_app (p : Pat) : sFor al p fs g e = (match fs e with | .ok ds => turns p g ds (fz al e) | .exc c fs => .ex c fs (fz al e) | .bad => .bad) := by unfold sFor sE; cases fs e <;> rfl
@[simp] theorem fz_cons (r : List Nat) : fz (i :: r) e = fz r (unown i e) := Eq.trans rfl rfl
@[simp] theorem unown_app : unown i e = (match e[i]? with | some (some (d, true)) => e.set i (some (d, false)) | _ => e) := Eq.trans rfl rfl
@[simp] theorem bindnm_app : Pat.bind (.nm i) d e = .ok (e.set i (some (d, false))) := Eq.trans rfl rfl
@[simp] theorem bindtp_app (ps : List Pat) : Pat.bind (.tp ps) (.tup ds) e = Pat.binds ps ds e := Eq.trans rfl rfl
@[simp] theorem binds_nil : Pat.binds [] [] e = .ok e := Eq.trans rfl rfl
@[simp] theorem binds_cons (p : Pat) (ps : List Pat) : Pat.binds (p :: ps) (d :: ds) e = (Pat.bind p d e).bind fun e' => Pat.binds ps ds e' := Eq.trans rfl rfl
@[simp] theorem asB_bl (b : Bool) : D.asB (.bl b) = .ok b := Eq.trans rfl rfl
@[simp] theorem dLt_int (i j : Int) : dLt (.int i) (.int j) = .ok (.bl (decide (i < j))) := Eq.trans rfl rfl
@[simp] theorem dLe_int (i j : Int) : dLe (.int i) (.int j) = .ok (.bl (decide (i ≤ j))) := Eq.trans rfl rfl
@[simp] theorem dGt_int (i j : Int) : dGt (.int i) (.int j) = .ok (.bl (decide (j < i))) := Eq.trans rfl rfl
@[simp] theorem dGe_int (i j : Int) : dGe (.int i) (.int j) = .ok (.bl (decide (j ≤ i))) := Eq.trans rfl rfl
@[simp] theorem dAdd_int (i j : Int) : dAdd (.int i) (.int j) = .ok (.int (i + j)) := Eq.trans rfl rfl
@[simp] theorem dSub_int (i j : Int) : dSub (.int i) (.int j) = .ok (.int (i - j)) := Eq.trans rfl rfl
@[simp] theorem dMod_int (i j : Int) : dMod (.int i) (.int j) = (if j ≠ 0 then .ok (.int (i.fmod j)) else .bad) := Eq.trans rfl rfl
@[simp] theorem dAbs_int (i : Int) : dAbs (.int i) = .ok (.int (i.natAbs : Int)) := by
  show Res.ok (D.int (if i < 0 then -i else i)) = _
  congr 2
  split <;> omega
@[simp] theorem dLen_lst : dLen (.lst ds) = .ok (.int ds.length) := Eq.trans rfl rfl
@[simp] theorem dLen_tup : dLen (.tup ds) = .ok (.int ds.length) := Eq.trans rfl rfl
@[simp] theorem dLen_con : dLen (.con ds) = .ok (.int ds.length) := Eq.trans rfl rfl
@[simp] theorem dLen_dct (t : Bool) (kvs : List (D × D)) : dLen (.dct t kvs) = .ok (.int kvs.length) := Eq.trans rfl rfl
@[simp] theorem isInt_int (i : Int) : isInt (.int i) = .ok (.bl true) := Eq.trans rfl rfl
@[simp] theorem isBool_int (i : Int) : isBool (.int i) = .ok (.bl false) := Eq.trans rfl rfl
@[simp] theorem isTup_tup : isTup (.tup ds) = .ok (.bl true) := Eq.trans rfl rfl
@[simp] theorem dTuple_lst : dTuple (.lst ds) = .ok (.tup ds) := Eq.trans rfl rfl
@[simp] theorem dTuple_tup : dTuple (.tup ds) = .ok (.tup ds) := Eq.trans rfl rfl
@[simp] theorem dList_lst : dList (.lst ds) = .ok (.lst ds) := Eq.trans rfl rfl
@[simp] theorem dList_tup : dList (.tup ds) = .ok (.lst ds) := Eq.trans rfl rfl
@[simp] theorem dMax_int (i j : Int) : dMax (.int i) (.int j) = .ok (.int (if i < j then j else i)) := Eq.trans rfl rfl
@[simp] theorem dMin_int (i j : Int) : dMin (.int i) (.int j) = .ok (.int (if j < i then j else i)) := Eq.trans rfl rfl
@[simp] theorem sMut_app (gm : List D → List D → Option (List D)) : sMut al i gm fs e = ownL i (fz al e) (fun xs => sE al fs (fun ds e' => match gm xs ds with
    | some ys => .nx (e'.set i (some (.lst ys, true)))
    | none => .bad) e) := Eq.trans rfl rfl
end
theorem gAppend_one {xs : List D} {d : D} (h : xs.length < sizeLine) : gAppend xs [d] = some (xs ++ [d]) := if_pos h
@[simp] theorem ownL_app (i : Nat) (e : DL.Env) (k : List D → Out) : ownL i e k = (match e[i]? with | some (some (.lst xs, true)) => k xs | _ => .bad) := Eq.trans rfl rfl
@[simp] theorem sE_app {α : Type} (al : List Nat) (e : DL.Env) (fa : DL.Env → Res α) (k : α → DL.Env → Out) : sE al fa k e = (match fa e with | .ok a => k a (fz al e) | .exc c fs => .ex c fs (fz al e) | .bad => .bad) := Eq.trans rfl rfl
theorem while_eq (al : List Nat) (ft : DL.Env → Res Bool) (fb : DL.Env → Out) (e : DL.Env) : sWhile al ft fb e = (match ft e with
    | .ok b => if b = true then (match fb (fz al e) with
      | .nx e2 => sWhile al ft fb e2
      | .ct e2 => sWhile al ft fb e2
      | .bk e2 => .nx e2
      | .rt d => .rt d
      | .ro d => .ro d
      | .ex c fs e2 => .ex c fs e2
      | .bad => .bad) else .nx (fz al e)
    | .exc c fs => .ex c fs (fz al e)
    | .bad => .bad) := by
  rw [sWhile_eq]
  cases ft e with
  | ok b => cases b <;> rfl
  | exc c fs => rfl
  | bad => rfl
/-! equality -/
theorem D.pl_int (i : Int) (n : Nat) : (D.int i).pl n = true := rfl
@[simp] theorem dEq_int (i j : Int) : dEq (.int i) (.int j) = .ok (.bl (decide (i = j))) := by
  simp [dEq, D.pl, D.beq, D.py, PyData.eqv]
  exact Bool.eq_iff_iff.mpr (by simp)
@[simp] theorem dNe_int (i j : Int) : dNe (.int i) (.int j) = .ok (.bl (!decide (i = j))) := by
  simp [dNe, D.pl, D.beq, D.py, PyData.eqv]
  exact Bool.eq_iff_iff.mpr (by simp)
@[simp] theorem dAdd_lst (a b : List D) (h : a.length + b.length ≤ sizeLine) : dAdd (.lst a) (.lst b) = .ok (.lst (a ++ b)) := if_pos h
@[simp] theorem dIx_tup0 (a : D) (r : List D) : dIx (.tup (a :: r)) (.int 0) = .ok a := by simp [dIx, atI, ixN]
@[simp] theorem dIx_tup1 (a b : D) (r : List D) : dIx (.tup (a :: b :: r)) (.int 1) = .ok b := by
  have : (1 : Int) < r.length + 1 + 1 := by omega
  simp [dIx, atI, ixN, this]
theorem dIx_lst {ds : List D} {i : Nat} {d : D} (h : ds[i]? = some d) : dIx (.lst ds) (.int i) = .ok d := by
  have : i < ds.length := (List.getElem?_eq_some_iff.mp h).1
  obtain ⟨w, rfl⟩ := List.getElem?_eq_some_iff.mp h
  simp [dIx, atI, ixN, w]
theorem dIx_tup {ds : List D} {i : Nat} {d : D} (h : ds[i]? = some d) : dIx (.tup ds) (.int i) = .ok d := by
  have : i < ds.length := (List.getElem?_eq_some_iff.mp h).1
  obtain ⟨w, rfl⟩ := List.getElem?_eq_some_iff.mp h
  simp [dIx, atI, ixN, w]
theorem ixN_of {n : Nat} {i : Int} (h : -(n : Int) ≤ i) (k : i < n) : ∃ j : Nat, ixN n i = some j ∧ j < n := by
  unfold ixN
  by_cases c : 0 ≤ i
  · exact ⟨i.toNat, by rw [if_pos c, if_pos k], by omega⟩
  · exact ⟨(i + n).toNat, by rw [if_neg c, if_pos h], by omega⟩
/-- some number stands at every place, told from either end -/
theorem dIx_ints {ns : List Int} {i : Int} (h : -(ns.length : Int) ≤ i) (k : i < ns.length) : ∃ z, z ∈ ns ∧ dIx (.lst (ns.map D.int)) (.int i) = .ok (.int z) := by
  obtain ⟨j, a, b⟩ := ixN_of h k
  refine ⟨ns[j], List.getElem_mem _, ?_⟩
  simp [dIx, atI, a, b]
mutual
theorem eqv_self : ∀ (d : D) (n : Nat), d.pl n = true → PyData.eqv d.py d.py = true
  | .non, _, _ => rfl
  | .bl b, _, _ => by simp [D.py, PyData.eqv]
  | .int i, _, _ => by simp [D.py, PyData.eqv]
  | .str x, _, _ => by simp [D.py, PyData.eqv]
  | .obj _, _, h => by simp [D.pl] at h
  | .dct _ _, _, h => by simp [D.pl] at h
  | .con xs, 0, h => by simp [D.pl] at h
  | .con xs, n + 1, h => by
    simp [D.py, PyData.eqv]
    exact eqvs_self xs n (by simpa [D.pl] using h)
  | .tup xs, 0, h => by simp [D.pl] at h
  | .lst xs, 0, h => by simp [D.pl] at h
  | .tup xs, n + 1, h => by
    simp [D.py, PyData.eqv]
    exact eqvs_self xs n (by simpa [D.pl] using h)
  | .lst xs, n + 1, h => by
    simp [D.py, PyData.eqv]
    exact eqvs_self xs n (by simpa [D.pl] using h)
theorem eqvs_self : ∀ (ds : List D) (n : Nat), D.pls ds n = true → PyData.eqvAll (D.pys ds) (D.pys ds) = true
  | [], _, _ => rfl
  | d :: r, n, h => by
    have h' : d.pl n = true ∧ D.pls r n = true := by simpa [D.pls] using h
    simp [D.pys, PyData.eqvAll]
    exact ⟨eqv_self d n h'.1, eqvs_self r n h'.2⟩
end
theorem dEq_self {d : D} (h : d.pl 60 = true) : dEq d d = .ok (.bl true) := by
  cases d with
  | str x => simp [dEq]
  | _ => simp only [dEq]; rw [if_pos ⟨h, h⟩, D.beq, eqv_self _ 60 h]
theorem dNe_self {d : D} (h : d.pl 60 = true) : dNe d d = .ok (.bl false) := by
  cases d with
  | str x => simp [dNe]
  | _ => simp only [dNe]; rw [if_pos ⟨h, h⟩, D.beq, eqv_self _ 60 h]; rfl
theorem pls_all {n : Nat} : ∀ {ds : List D}, (∀ d ∈ ds, d.pl n = true) → D.pls ds n = true
  | [], _ => rfl
  | d :: r, h => by
    rw [D.pls, h d List.mem_cons_self, pls_all fun x hx => h x (List.mem_cons_of_mem _ hx)]
    rfl
/-! ### sizes -/
/-- an integer of at most so many bits -/
def Sm (n : Nat) (i : Int) : Prop := i.natAbs < 2 ^ n
theorem Sm.mono {n m : Nat} {i : Int} (h : Sm n i) (k : n ≤ m) : Sm m i := Nat.lt_of_lt_of_le h (Nat.pow_le_pow_right (by decide) k)
theorem Sm.bits {n : Nat} {i : Int} : Sm n i ↔ intBits i ≤ n := by
  unfold Sm intBits
  by_cases h : i = 0
  · subst h; simp; exact Nat.two_pow_pos n
  · have h' : (i == 0) = false := by simpa using h
    rw [h']
    have : i.natAbs ≠ 0 := by omega
    rw [← Nat.log2_lt this]
    exact Iff.rfl
theorem Sm.add {n : Nat} {i j : Int} (h : Sm n i) (k : Sm n j) : Sm (n + 1) (i + j) := by
  unfold Sm at *
  rw [Nat.pow_succ]
  omega
theorem Sm.neg {n : Nat} {i : Int} (h : Sm n i) : Sm n (-i) := by
  unfold Sm at *; omega
theorem Sm.mul {n m : Nat} {i j : Int} (h : Sm n i) (k : Sm m j) : Sm (n + m) (i * j) := by
  unfold Sm at *
  rw [Int.natAbs_mul, Nat.pow_add]
  exact Nat.mul_lt_mul'' h k
theorem Sm.pow {n : Nat} {i : Int} (h : Sm n i) : ∀ k, Sm (n * k + 1) (i ^ k)
  | 0 => by show (i ^ 0).natAbs < 2 ^ (0 + 1); simp
  | k + 1 => by
    rw [Int.pow_succ]
    exact ((Sm.pow h k).mul h).mono (by rw [Nat.mul_succ]; omega)
theorem Sm.le {n : Nat} {i j : Int} (h : Sm n i) (k : j.natAbs ≤ i.natAbs) : Sm n j := Nat.lt_of_le_of_lt k h
theorem Sm.lg {n : Nat} {i : Int} (h : Sm n i) (k : n ≤ 8999) : i.natAbs.log2 < 9000 := by
  by_cases z : i.natAbs = 0
  · rw [z]; decide
  · rw [Nat.log2_lt z]
    exact Nat.lt_of_lt_of_le h (Nat.pow_le_pow_right (by decide) (by omega))
theorem Sm.two {n m : Nat} {i j : Int} (h : Sm n i) (k : Sm m j) (l : n + m ≤ big) : intBits i + intBits j ≤ big := Nat.le_trans (Nat.add_le_add (Sm.bits.mp h) (Sm.bits.mp k)) l
theorem dMul_int {n m : Nat} {i j : Int} (h : Sm n i) (k : Sm m j) (l : n + m ≤ big) : dMul (.int i) (.int j) = .ok (.int (i * j)) := if_pos (h.two k l)
theorem dDiv_int {i j : Int} (h : j ≠ 0) (k : j.natAbs.log2 < 9000) : dDiv (.int i) (.int j) = .ok (.int (i.fdiv j)) := if_pos ⟨h, k⟩
@[simp] theorem dDiv_lit (i j : Int) (h : 0 < j) (k : j < 18446744073709551616) : dDiv (.int i) (.int j) = .ok (.int (i / j)) := by
  rw [dDiv_int (by omega) (Sm.lg (n := 64) (by unfold Sm; omega) (by decide)), Int.fdiv_eq_ediv_of_nonneg _ (by omega)]
theorem dDiv_pos {i j : Int} {n : Nat} (h : 0 < j) (k : Sm n j) (l : n ≤ 8999) : dDiv (.int i) (.int j) = .ok (.int (i / j)) := by
  rw [dDiv_int (by omega) (k.lg l), Int.fdiv_eq_ediv_of_nonneg _ (by omega)]
@[simp high] theorem dMod_lit (i j : Int) (h : 0 < j) : dMod (.int i) (.int j) = .ok (.int (i % j)) := by
  rw [dMod_int, if_pos (by omega), Int.fmod_eq_emod_of_nonneg _ (by omega)]
theorem dPow_of {i j : Int} (h : 0 ≤ j ∧ (intBits i : Int) * j ≤ 2 ^ 27) : dPow (.int i) (.int j) = .ok (.int (i ^ j.toNat)) := if_pos h
@[simp] theorem pow_10_60 : dPow (.int 10) (.int 60) = .ok (.int (10 ^ 60)) := dPow_of (by decide +kernel)
@[simp] theorem pow_10_18 : dPow (.int 10) (.int 18) = .ok (.int (10 ^ 18)) := dPow_of (by decide +kernel)
@[simp] theorem pow_10_9 : dPow (.int 10) (.int 9) = .ok (.int (10 ^ 9)) := dPow_of (by decide +kernel)
@[simp] theorem pow_10_10 : dPow (.int 10) (.int 10) = .ok (.int (10 ^ 10)) := dPow_of (by decide +kernel)
/-! ### loops -/
@[simp] theorem isInt_bl (b : Bool) : isInt (.bl b) = .ok (.bl true) := Eq.trans rfl rfl
@[simp] theorem isInt_tup (ds : List D) : isInt (.tup ds) = .ok (.bl false) := Eq.trans rfl rfl
@[simp] theorem isInt_str (x : Str) : isInt (.str x) = .ok (.bl false) := Eq.trans rfl rfl
@[simp] theorem isInt_lst (ds : List D) : isInt (.lst ds) = .ok (.bl false) := Eq.trans rfl rfl
@[simp] theorem isInt_non  : isInt .non = .ok (.bl false) := Eq.trans rfl rfl
@[simp] theorem isBool_bl (b : Bool) : isBool (.bl b) = .ok (.bl true) := Eq.trans rfl rfl
@[simp] theorem isBool_tup (ds : List D) : isBool (.tup ds) = .ok (.bl false) := Eq.trans rfl rfl
@[simp] theorem isBool_str (x : Str) : isBool (.str x) = .ok (.bl false) := Eq.trans rfl rfl
@[simp] theorem isBool_lst (ds : List D) : isBool (.lst ds) = .ok (.bl false) := Eq.trans rfl rfl
@[simp] theorem isBool_non  : isBool .non = .ok (.bl false) := Eq.trans rfl rfl
@[simp] theorem isTup_int (i : Int) : isTup (.int i) = .ok (.bl false) := Eq.trans rfl rfl
@[simp] theorem isTup_bl (b : Bool) : isTup (.bl b) = .ok (.bl false) := Eq.trans rfl rfl
@[simp] theorem isTup_str (x : Str) : isTup (.str x) = .ok (.bl false) := Eq.trans rfl rfl
@[simp] theorem isTup_lst (ds : List D) : isTup (.lst ds) = .ok (.bl false) := Eq.trans rfl rfl
@[simp] theorem isTup_non  : isTup .non = .ok (.bl false) := Eq.trans rfl rfl
@[simp] theorem isStr_int (i : Int) : isStr (.int i) = .ok (.bl false) := Eq.trans rfl rfl
@[simp] theorem isStr_bl (b : Bool) : isStr (.bl b) = .ok (.bl false) := Eq.trans rfl rfl
@[simp] theorem isStr_tup (ds : List D) : isStr (.tup ds) = .ok (.bl false) := Eq.trans rfl rfl
@[simp] theorem isStr_str (x : Str) : isStr (.str x) = .ok (.bl true) := Eq.trans rfl rfl
@[simp] theorem isStr_lst (ds : List D) : isStr (.lst ds) = .ok (.bl false) := Eq.trans rfl rfl
@[simp] theorem isStr_non  : isStr .non = .ok (.bl false) := Eq.trans rfl rfl
@[simp] theorem isList_int (i : Int) : isList (.int i) = .ok (.bl false) := Eq.trans rfl rfl
@[simp] theorem isList_bl (b : Bool) : isList (.bl b) = .ok (.bl false) := Eq.trans rfl rfl
@[simp] theorem isList_tup (ds : List D) : isList (.tup ds) = .ok (.bl false) := Eq.trans rfl rfl
@[simp] theorem isList_str (x : Str) : isList (.str x) = .ok (.bl false) := Eq.trans rfl rfl
@[simp] theorem isList_lst (ds : List D) : isList (.lst ds) = .ok (.bl true) := Eq.trans rfl rfl
@[simp] theorem isList_non  : isList .non = .ok (.bl false) := Eq.trans rfl rfl
@[simp] theorem dIx_tup2 (a b c : D) (r : List D) : dIx (.tup (a :: b :: c :: r)) (.int 2) = .ok c := by
  have : (2 : Int) < r.length + 1 + 1 + 1 := by omega
  simp [dIx, atI, ixN, this]
@[simp] theorem dIx_tup3 (a b c d : D) (r : List D) : dIx (.tup (a :: b :: c :: d :: r)) (.int 3) = .ok d := by
  have : (3 : Int) < r.length + 1 + 1 + 1 + 1 := by omega
  simp [dIx, atI, ixN, this]
@[simp] theorem dEq_str (a b : Str) : dEq (.str a) (.str b) = .ok (.bl (decide (a = b))) := Eq.trans rfl rfl
@[simp] theorem dNe_str (a b : Str) : dNe (.str a) (.str b) = .ok (.bl (!decide (a = b))) := Eq.trans rfl rfl
@[simp] theorem dEq_bl (a b : Bool) : dEq (.bl a) (.bl b) = .ok (.bl (decide (a = b))) := by
  simp [dEq, D.pl, D.beq, D.py, PyData.eqv]
  cases a <;> cases b <;> rfl
@[simp] theorem dNe_bl (a b : Bool) : dNe (.bl a) (.bl b) = .ok (.bl (!decide (a = b))) := by
  simp [dNe, D.pl, D.beq, D.py, PyData.eqv]
  cases a <;> cases b <;> rfl
@[simp] theorem truth_bl (b : Bool) : D.truth (.bl b) = .ok b := Eq.trans rfl rfl
@[simp] theorem truth_int (i : Int) : D.truth (.int i) = .ok (decide (i ≠ 0)) := by
  show Res.ok (i != 0) = _
  congr 1
  exact Bool.eq_iff_iff.mpr (by simp)
/-- a loop all of whose turns end well -/
theorem turns_nx {p : Pat} {body : DL.Env → Out} : ∀ {ds : List D} (J : List D → DL.Env → Prop), (∀ d r e, J (d :: r) e → ∃ e1 e2, p.bind d e = .ok e1 ∧ body e1 = .nx e2 ∧ J r e2) → ∀ {e}, J ds e → ∃ e', turns p body ds e = .nx e' ∧ J [] e'
  | [], J, h, e, h0 => ⟨e, rfl, h0⟩
  | d :: r, J, h, e, h0 => by
    obtain ⟨e1, e2, a, b, c⟩ := h d r e h0
    obtain ⟨e', x, y⟩ := turns_nx J h c
    refine ⟨e', ?_, y⟩
    unfold turns
    rw [a]
    dsimp only
    rw [b]
    exact x
/-- a loop over range(n) all of whose turns end well -/
theorem turns_range {s : Nat} {body : DL.Env → Out} (J : Nat → DL.Env → Prop) (n : Nat) (h : ∀ i e, i < n → J i e → ∃ e2, body (e.set s (some (.int (i : Int), false))) = .nx e2 ∧ J (i + 1) e2) {e : DL.Env} (h0 : J 0 e) :
    ∃ e', turns (.nm s) body (rangeD 0 n) e = .nx e' ∧ J n e' := by
  have gen : ∀ (m i : Nat) (e : DL.Env), i + m = n → J i e → ∃ e', turns (.nm s) body ((List.range m).map fun k => D.int ((i + k : Nat) : Int)) e = .nx e' ∧ J n e' := by
    intro m
    induction m with
    | zero => intro i e hi hj; have hi2 : i = n := by omega
              subst hi2; exact ⟨e, rfl, hj⟩
    | succ m ih =>
      intro i e hi hj
      obtain ⟨e2, a, b⟩ := h i e (by omega) hj
      obtain ⟨e', x, y⟩ := ih (i + 1) e2 (by omega) b
      refine ⟨e', ?_, y⟩
      rw [List.range_succ_eq_map, List.map_cons, List.map_map]
      unfold turns
      dsimp only [Pat.bind]
      rw [Nat.add_zero, a]
      dsimp only
      rw [← x]
      congr 1
      apply List.map_congr_left
      intro k _
      show D.int ((i + (k + 1) : Nat) : Int) = D.int ((i + 1 + k : Nat) : Int)
      rw [Nat.add_assoc, Nat.add_comm 1 k]
  obtain ⟨e', a, b⟩ := gen n 0 e (by omega) h0
  refine ⟨e', ?_, b⟩
  rw [← a]
  unfold rangeD
  simp
/-- range(0, b, c) upwards -/
theorem rg3_up {b c : Int} {n : Nat} (hc : 0 < c) (hc2 : c < 1000000) (hb : b ≤ 1000000) (hn : 0 < b → (n : Int) = (b - 1) / c + 1) (hz : b ≤ 0 → n = 0) (hb0 : 0 ≤ b) : rg3 0 b c = .ok (prog3 0 c n) := by
  refine rg3_of ⟨by omega, by omega, ?_, ?_⟩
  · have e : Builtin.Range.rangeSize 0 b c = (n : Int) := by
      unfold Builtin.Range.rangeSize
      by_cases h : 0 < b
      · rw [if_pos (by omega), if_pos h, hn h]; simp
      · rw [if_pos (by omega), if_neg h, hz (by omega)]; rfl
    have hn2 : (n : Int) ≤ 1000001 := by
      by_cases h : 0 < b
      · rw [hn h]
        have : (b - 1) / c ≤ b - 1 := Int.ediv_le_self _ (by omega)
        omega
      · rw [hz (by omega)]; decide
    unfold Builtin.Range.small
    rw [e]
    have fits : ∀ z : Int, -100000000 ≤ z → z ≤ 100000000 → Builtin.Range.rangeFitsLong z = true := fun z a b => by
      unfold Builtin.Range.rangeFitsLong
      simp
      omega
    rw [fits 0 (by omega) (by omega), fits b (by omega) (by omega), fits c (by omega) (by omega), fits n (by omega) (by omega)]
    simp only [Bool.and_self, Bool.true_and]
    rw [if_pos (by omega), fits (b + (c - 1)) (by omega) (by omega)]
    simp
  · unfold Builtin.Range.rangeSize
    by_cases h : 0 < b
    · rw [if_pos (by omega), if_pos h, hn h]; simp
    · rw [if_pos (by omega), if_neg h, hz (by omega)]; rfl
/-- a loop over a progression all of whose turns end well -/
theorem turns_prog {s : Nat} {body : DL.Env → Out} (J : Nat → DL.Env → Prop) (i0 c : Int) (n : Nat) (h : ∀ i e, i < n → J i e → ∃ e2, body (e.set s (some (.int (i0 + (i : Int) * c), false))) = .nx e2 ∧ J (i + 1) e2) {e : DL.Env} (h0 : J 0 e) :
    ∃ e', turns (.nm s) body (prog3 i0 c n) e = .nx e' ∧ J n e' := by
  have gen : ∀ (m i : Nat) (e : DL.Env), i + m = n → J i e → ∃ e', turns (.nm s) body ((List.range m).map fun k => D.int (i0 + ((i + k : Nat) : Int) * c)) e = .nx e' ∧ J n e' := by
    intro m
    induction m with
    | zero => intro i e hi hj; have hi2 : i = n := by omega
              subst hi2; exact ⟨e, rfl, hj⟩
    | succ m ih =>
      intro i e hi hj
      obtain ⟨e2, a, b⟩ := h i e (by omega) hj
      obtain ⟨e', x, y⟩ := ih (i + 1) e2 (by omega) b
      refine ⟨e', ?_, y⟩
      rw [List.range_succ_eq_map, List.map_cons, List.map_map]
      unfold turns
      dsimp only [Pat.bind]
      rw [Nat.add_zero, a]
      dsimp only
      rw [← x]
      congr 1
      apply List.map_congr_left
      intro k _
      show D.int (i0 + ((i + (k + 1) : Nat) : Int) * c) = D.int (i0 + ((i + 1 + k : Nat) : Int) * c)
      rw [Nat.add_assoc, Nat.add_comm 1 k]
  obtain ⟨e', a, b⟩ := gen n 0 e (by omega) h0
  refine ⟨e', ?_, b⟩
  rw [← a]
  unfold prog3
  simp
theorem runDef_ro {n m : Nat} {fb : DL.Env → Out} {ds : List D} {d : D} (h : fb (env0 n m ds) = .ro d) : runDef n m fb ds = .ok d := by unfold runDef; rw [h]
theorem runDef_rt {n m : Nat} {fb : DL.Env → Out} {ds : List D} {d : D} (h : fb (env0 n m ds) = .rt d) : runDef n m fb ds = .ok d := by unfold runDef; rw [h]
end DL

namespace DL
open PySem PySem.Spec PyProof.Rows L2
open PySem.Builtin.Int (intBits)
/-! ### Euclid's loop over slots 0, 1, 2 -/
noncomputable def gcdLoop : DL.Env → Out := sWhile [] (bTest dGt (eVarS 1) (eC (.int 0))) (sSeq (sSet [] 2 (eOp dMod (eVarS 0) (eVarS 1))) (sSeq (sSet [] 0 (eVarS 1)) (sSeq (sSet [] 1 (eVarS 2)) sSkip)))
theorem gcdLoop_is : ∀ (b a : Nat) (z : Sl), ∃ z', gcdLoop [some (.int a, false), some (.int b, false), z] = .nx [some (.int (Nat.gcd b a : Nat), false), some (.int 0, false), z'] := by
  intro b
  induction b using Nat.strongRecOn with
  | ind b ih =>
    intro a z
    unfold gcdLoop
    rw [while_eq]
    by_cases hb : b = 0
    · subst hb
      simp
    · have hb' : (0 : Int) < b := by omega
      have hb2 : (b : Int) ≠ 0 := by omega
      have hb3 : 0 < b := by omega
      have e : (a : Int) % b = ((a % b : Nat) : Int) := by simp
      have md : dMod (.int a) (.int b) = .ok (.int ((a % b : Nat) : Int)) := by rw [dMod_lit _ _ hb', e]
      simp [hb3, hb2, hb, md, -dMod_lit]
      rw [e]
      have h2 := ih (a % b) (Nat.mod_lt _ (by omega)) b (some (.int ((a % b : Nat) : Int), false))
      unfold gcdLoop at h2
      rw [Nat.gcd_rec b a]
      exact h2
noncomputable def gcdBody : DL.Env → Out := sSeq gcdLoop (sSeq (sRet [] (eVarS 0)) sSkip)
theorem gcd_def (a b : Nat) : runDef 2 3 gcdBody [.int a, .int b] = .ok (.int (Nat.gcd b a : Nat)) := by
  refine runDef_rt ?_
  obtain ⟨z', h⟩ := gcdLoop_is b a none
  unfold gcdBody
  simp [env0, h]
/-- the share a rational number is -/
def shr (x : Rat) : D := .tup [.int x.num, .int x.den]
theorem divInt_parts (a : Int) (b : Nat) (hb : b ≠ 0) : (Rat.divInt a b).num = a.fdiv (Nat.gcd b a.natAbs : Nat) ∧ ((Rat.divInt a b).den : Int) = (b : Int).fdiv (Nat.gcd b a.natAbs : Nat) := by
  have e : Rat.divInt a b = Rat.normalize a b hb := by
    rw [Rat.normalize_eq_mkRat]; rfl
  have : (0 : Int) ≤ (Nat.gcd b a.natAbs : Nat) := Int.natCast_nonneg _
  rw [Int.fdiv_eq_ediv_of_nonneg _ this, Int.fdiv_eq_ediv_of_nonneg _ this, Nat.gcd_comm, e, Rat.normalize_eq hb]
  exact ⟨rfl, by simp⟩
noncomputable def shareBody (G : List D → Res D) (c : String) : DL.Env → Out := (sSeq (sIf [] (bTest dEq (eVarS 1) (eC (.int 0))) (sSeq (sRaise c) sSkip) sSkip) (sSeq (sIf [] (bTest dLt (eVarS 1) (eC (.int 0))) (sSeq (sSet [] 0 (eNeg (eVarS 0))) (sSeq (sSet [] 1 (eNeg (eVarS 1))) sSkip)) sSkip) (sSeq (sSet [] 2 (eCall G (aCons (e1 dAbs (eVarS 0)) (aCons (eVarS 1) aNil)))) (sSeq (sRet [] (eTup (aCons (eOp dDiv (eVarS 0) (eVarS 2)) (aCons (eOp dDiv (eVarS 1) (eVarS 2)) aNil)))) sSkip))))
theorem share_def {G : List D → Res D} (hG : ∀ a b : Nat, G [.int a, .int b] = .ok (.int (Nat.gcd b a : Nat))) (c : String) {a b : Int} (hb : b ≠ 0) {n : Nat} (hs : Sm n b) (hn : n ≤ 8999) : runDef 2 3 (shareBody G c) [.int a, .int b] = .ok (shr (Rat.divInt a b)) := by
  refine runDef_rt ?_
  have key : ∀ (a : Int) (b : Nat), b ≠ 0 → Sm n b → ∀ z, (sSeq (sSet [] 2 (eCall G (aCons (e1 dAbs (eVarS 0)) (aCons (eVarS 1) aNil)))) (sSeq (sRet [] (eTup (aCons (eOp dDiv (eVarS 0) (eVarS 2)) (aCons (eOp dDiv (eVarS 1) (eVarS 2)) aNil)))) sSkip)) [some (.int a, false), some (.int b, false), z] = .rt (shr (Rat.divInt a b)) := by
    intro a b hb hs z
    have hg : Nat.gcd b a.natAbs ≠ 0 := fun z => hb (Nat.eq_zero_of_gcd_eq_zero_left z)
    have hl : ((Nat.gcd b a.natAbs : Nat) : Int).natAbs.log2 < 9000 := (hs.le (by simpa using Nat.gcd_le_left a.natAbs (by omega))).lg hn
    have hg' : ((Nat.gcd b a.natAbs : Nat) : Int) ≠ 0 := by omega
    obtain ⟨p1, p2⟩ := divInt_parts a b hb
    have hG' := hG a.natAbs b
    rw [shr, p1, p2]
    simp [hG', dDiv_int hg' hl]
  unfold shareBody
  by_cases hneg : b < 0
  · obtain ⟨m, hm⟩ : ∃ m : Nat, -b = m := ⟨(-b).toNat, by omega⟩
    have hm0 : m ≠ 0 := by omega
    have hsm : Sm n (m : Int) := by rw [← hm]; exact hs.neg
    have e : Rat.divInt a b = Rat.divInt (-a) m := by rw [← hm]; exact (Rat.neg_divInt_neg a b).symm
    have k := key (-a) m hm0 hsm none
    rw [e, ← k]
    simp [env0, hb, hneg, hm]
  · obtain ⟨m, rfl⟩ : ∃ m : Nat, b = m := ⟨b.toNat, by omega⟩
    have k := key a m (by omega) hs none
    have hm0 : m ≠ 0 := by omega
    have hng : ¬ ((m : Int) < 0) := by omega
    rw [← k]
    simp [env0, hm0, hng]
theorem share_zero {G : List D → Res D} (c : String) (a : Int) : runDef 2 3 (shareBody G c) [.int a, .int 0] = .exc c [] := by
  unfold runDef shareBody
  simp [env0]
end DL

namespace DL
open PySem PySem.Spec PyProof.Rows L2
open PySem.Builtin.Int (intBits)
/-! ### shares -/
@[simp] theorem shr_0 (x : Rat) : dIx (shr x) (.int 0) = .ok (.int x.num) := by simp [shr]
@[simp] theorem shr_1 (x : Rat) : dIx (shr x) (.int 1) = .ok (.int x.den) := by simp [shr]
theorem shr_pl (x : Rat) (n : Nat) : (shr x).pl (n + 1) = true := rfl
/-- sizes of a share -/
def SmR (n m : Nat) (x : Rat) : Prop := Sm n x.num ∧ Sm m (x.den : Int)
theorem SmR.mono {n m n' m' : Nat} {x : Rat} (h : SmR n m x) (a : n ≤ n') (b : m ≤ m') : SmR n' m' x := ⟨h.1.mono a, h.2.mono b⟩
theorem divInt_small {a : Int} {b : Nat} (hb : b ≠ 0) : (Rat.divInt a b).num.natAbs ≤ a.natAbs ∧ (Rat.divInt a b).den ≤ b := by
  obtain ⟨p1, p2⟩ := divInt_parts a b hb
  have hg : (0 : Int) ≤ (Nat.gcd b a.natAbs : Nat) := Int.natCast_nonneg _
  rw [Int.fdiv_eq_ediv_of_nonneg _ hg] at p1 p2
  constructor
  · rw [p1, Int.natAbs_ediv_of_dvd (Int.ofNat_dvd_left.mpr (Nat.gcd_dvd_right _ _))]
    simpa using Nat.div_le_self _ _
  · have : ((b : Int) / (Nat.gcd b a.natAbs : Nat)) = ((b / Nat.gcd b a.natAbs : Nat) : Int) := by simp
    rw [this] at p2
    have := Nat.div_le_self b (Nat.gcd b a.natAbs)
    omega
theorem SmR.divInt {n m : Nat} {a : Int} {b : Nat} (hb : b ≠ 0) (h : Sm n a) (k : Sm m (b : Int)) : SmR n m (Rat.divInt a b) := by
  obtain ⟨p, q⟩ := divInt_small (a := a) hb
  exact ⟨h.le p, k.le (by simpa using q)⟩
theorem divInt_add (x y : Rat) : Rat.divInt (x.num * y.den + y.num * x.den) ((x.den * y.den : Nat) : Int) = x + y := by
  have hx : (x.den : Int) ≠ 0 := by have := x.den_nz; omega
  have hy : (y.den : Int) ≠ 0 := by have := y.den_nz; omega
  have := Rat.divInt_add_divInt x.num y.num hx hy
  rw [Rat.num_divInt_den, Rat.num_divInt_den] at this
  rw [this, Int.natCast_mul]
theorem divInt_mul (x y : Rat) : Rat.divInt (x.num * y.num) ((x.den * y.den : Nat) : Int) = x * y := by
  have := Rat.divInt_mul_divInt x.num y.num (d₁ := x.den) (d₂ := y.den)
  rw [Rat.num_divInt_den, Rat.num_divInt_den] at this
  rw [this, Int.natCast_mul]
theorem den_mul_ne (x y : Rat) : x.den * y.den ≠ 0 := Nat.mul_ne_zero x.den_nz y.den_nz
theorem SmR.add {n m n' m' k : Nat} {x y : Rat} (h : SmR n m x) (q : SmR n' m' y) (a : n + m' ≤ k) (b : n' + m ≤ k) : SmR (k + 1) (m + m') (x + y) := by
  rw [← divInt_add]
  refine SmR.divInt (den_mul_ne x y) (((h.1.mul q.2).mono a).add ((q.1.mul h.2).mono b)) ?_
  rw [Int.natCast_mul]
  exact h.2.mul q.2
theorem SmR.mul {n m n' m' : Nat} {x y : Rat} (h : SmR n m x) (q : SmR n' m' y) : SmR (n + n') (m + m') (x * y) := by
  rw [← divInt_mul]
  refine SmR.divInt (den_mul_ne x y) (h.1.mul q.1) ?_
  rw [Int.natCast_mul]
  exact h.2.mul q.2
/-- share_of's promise -/
def ShareOf (S : List D → Res D) : Prop := ∀ (a b : Int) (n : Nat), b ≠ 0 → Sm n b → n ≤ 8999 → S [.int a, .int b] = .ok (shr (Rat.divInt a b))
noncomputable def addBody (S : List D → Res D) : DL.Env → Out := (sSeq (sRet [] (eCall S (aCons (eOp dAdd (eOp dMul (eOp dIx (eVarS 0) (eC (.int 0))) (eOp dIx (eVarS 1) (eC (.int 1)))) (eOp dMul (eOp dIx (eVarS 1) (eC (.int 0))) (eOp dIx (eVarS 0) (eC (.int 1))))) (aCons (eOp dMul (eOp dIx (eVarS 0) (eC (.int 1))) (eOp dIx (eVarS 1) (eC (.int 1)))) aNil)))) sSkip)
theorem add_def {S : List D → Res D} (hS : ShareOf S) {x y : Rat} {n m n' m' : Nat} (h : SmR n m x) (q : SmR n' m' y) (a : n + m' ≤ big) (b : n' + m ≤ big) (c : m + m' ≤ 8999) : runDef 2 2 (addBody S) [shr x, shr y] = .ok (shr (x + y)) := by
  refine runDef_rt ?_
  have hd : ((x.den : Int) * y.den) ≠ 0 := by rw [← Int.natCast_mul]; have := den_mul_ne x y; omega
  have s := hS (x.num * y.den + y.num * x.den) (x.den * y.den) _ hd (h.2.mul q.2) c
  have z := divInt_add x y
  rw [Int.natCast_mul] at z
  rw [z] at s
  unfold addBody
  simp [env0, dMul_int h.1 q.2 a, dMul_int q.1 h.2 b, dMul_int h.2 q.2 (Nat.le_trans c (by decide)), s]
noncomputable def mulBody (S : List D → Res D) : DL.Env → Out := (sSeq (sRet [] (eCall S (aCons (eOp dMul (eOp dIx (eVarS 0) (eC (.int 0))) (eOp dIx (eVarS 1) (eC (.int 0)))) (aCons (eOp dMul (eOp dIx (eVarS 0) (eC (.int 1))) (eOp dIx (eVarS 1) (eC (.int 1)))) aNil)))) sSkip)
theorem mul_def {S : List D → Res D} (hS : ShareOf S) {x y : Rat} {n m n' m' : Nat} (h : SmR n m x) (q : SmR n' m' y) (a : n + n' ≤ big) (c : m + m' ≤ 8999) : runDef 2 2 (mulBody S) [shr x, shr y] = .ok (shr (x * y)) := by
  refine runDef_rt ?_
  have hd : ((x.den : Int) * y.den) ≠ 0 := by rw [← Int.natCast_mul]; have := den_mul_ne x y; omega
  have s := hS (x.num * y.num) (x.den * y.den) _ hd (h.2.mul q.2) c
  have z := divInt_mul x y
  rw [Int.natCast_mul] at z
  rw [z] at s
  unfold mulBody
  simp [env0, dMul_int h.1 q.1 a, dMul_int h.2 q.2 (Nat.le_trans c (by decide)), s]
/-- added's promise -/
def AddOf (S : List D → Res D) : Prop := ∀ (x y : Rat) (n m n' m' : Nat), SmR n m x → SmR n' m' y → n + m' ≤ big → n' + m ≤ big → m + m' ≤ 8999 → S [shr x, shr y] = .ok (shr (x + y))
noncomputable def allBody (S : List D → Res D) : DL.Env → Out := (sSeq (sSet [] 1 (eTup (aCons (eC (.int 0)) (aCons (eC (.int 1)) aNil)))) (sSeq (sFor [] (.nm 2) (iSeq (eVarS 0)) (sSeq (sSet [] 1 (eCall S (aCons (eVarS 1) (aCons (eVarS 2) aNil)))) sSkip)) (sSeq (sRet [] (eVarS 1)) sSkip)))
theorem shr_zero : (.tup [.int 0, .int 1] : D) = shr 0 := rfl
theorem shr_one : (.tup [.int 1, .int 1] : D) = shr 1 := rfl
def sumR : List Rat → Rat := fun l => l.foldl (· + ·) 0
/-- so many shares of such sizes make a sum of such a size -/
theorem all_loop {S : List D → Res D} (hS : AddOf S) {cn cd N : Nat} (hN : cd * N + 1 + cd ≤ 8999) (hM : (cd + 1) * N + cn + 1 + cd ≤ big) (z0 : Sl) : ∀ (l : List Rat) (i : Nat) (t : Rat) (z : Sl), (∀ x ∈ l, SmR cn cd x) → SmR ((cd + 1) * i + cn + 1) (cd * i + 1) t → i + l.length ≤ N →
    ∃ z', turns (.nm 2) (sSeq (sSet [] 1 (eCall S (aCons (eVarS 1) (aCons (eVarS 2) aNil)))) sSkip) (l.map shr) [z0, some (shr t, false), z] = .nx [z0, some (shr (l.foldl (· + ·) t), false), z'] := by
  intro l
  induction l with
  | nil => intro i t z h s hl; exact ⟨z, rfl⟩
  | cons x l ih =>
    intro i t z h s hl
    rw [List.length_cons] at hl
    have hi : i + 1 ≤ N := by omega
    have h1 : cd * (i + 1) ≤ cd * N := Nat.mul_le_mul_left _ hi
    have h2 : (cd + 1) * (i + 1) ≤ (cd + 1) * N := Nat.mul_le_mul_left _ hi
    have h1' : cd * (i + 1) = cd * i + cd := Nat.mul_succ _ _
    have h2' : (cd + 1) * (i + 1) = (cd + 1) * i + (cd + 1) := Nat.mul_succ _ _
    have h3 : (cd + 1) * i = cd * i + i := Nat.succ_mul _ _
    have hx := h x List.mem_cons_self
    have a := hS t x _ _ _ _ s hx (by omega) (by omega) (by omega)
    have s' : SmR ((cd + 1) * (i + 1) + cn + 1) (cd * (i + 1) + 1) (t + x) := (SmR.add s hx (k := (cd + 1) * i + cn + 1 + cd) (by omega) (by omega)).mono (by omega) (by omega)
    obtain ⟨z', q⟩ := ih (i + 1) (t + x) (some (shr x, false)) (fun y hy => h y (List.mem_cons_of_mem _ hy)) s' (by omega)
    refine ⟨z', ?_⟩
    rw [List.map_cons, List.foldl_cons, ← q]
    rw [turns]
    simp [a]
theorem all_def {S : List D → Res D} (hS : AddOf S) {cn cd : Nat} {l : List Rat} {d : D} (hd : d = .lst (l.map shr) ∨ d = .tup (l.map shr)) (h : ∀ x ∈ l, SmR cn cd x) (hN : cd * l.length + 1 + cd ≤ 8999) (hM : (cd + 1) * l.length + cn + 1 + cd ≤ big) : runDef 1 3 (allBody S) [d] = .ok (shr (sumR l)) := by
  refine runDef_rt ?_
  unfold allBody
  obtain ⟨z', q⟩ := all_loop hS hN hM (some (d, false)) l 0 0 none h ⟨show 0 < _ from Nat.two_pow_pos _, show 1 < 2 ^ _ by simp⟩ (by omega)
  rw [← shr_zero] at q
  rcases hd with rfl | rfl <;> simp [env0, q, sumR]
end DL

namespace DL
open PySem PySem.Spec PyProof.Rows L2
open PySem.Builtin.Int (intBits)
/-! ### powers of a pair by squarings -/
noncomputable def powLoop : DL.Env → Out := (sWhile [] (bTest dGt (eVarS 1) (eC (.int 0))) (sSeq (sIf [] (bTest dEq (eOp dMod (eVarS 1) (eC (.int 2))) (eC (.int 1))) (sSeq (sSet [] 2 (eTup (aCons (eOp dMul (eOp dIx (eVarS 2) (eC (.int 0))) (eOp dIx (eVarS 0) (eC (.int 0)))) (aCons (eOp dMul (eOp dIx (eVarS 2) (eC (.int 1))) (eOp dIx (eVarS 0) (eC (.int 1)))) aNil)))) sSkip) sSkip) (sSeq (sSet [] 1 (eOp dDiv (eVarS 1) (eC (.int 2)))) (sSeq (sIf [] (bTest dGt (eVarS 1) (eC (.int 0))) (sSeq (sSet [] 0 (eTup (aCons (eOp dMul (eOp dIx (eVarS 0) (eC (.int 0))) (eOp dIx (eVarS 0) (eC (.int 0)))) (aCons (eOp dMul (eOp dIx (eVarS 0) (eC (.int 1))) (eOp dIx (eVarS 0) (eC (.int 1)))) aNil)))) sSkip) sSkip) sSkip))))
noncomputable def powBody : DL.Env → Out := (sSeq (sSet [] 2 (eTup (aCons (eC (.int 1)) (aCons (eC (.int 1)) aNil)))) (sSeq powLoop (sSeq (sRet [] (eVarS 2)) sSkip)))
def pr (a b : Int) : D := .tup [.int a, .int b]
@[simp] theorem pr_0 (a b : Int) : dIx (pr a b) (.int 0) = .ok (.int a) := by simp [pr]
@[simp] theorem pr_1 (a b : Int) : dIx (pr a b) (.int 1) = .ok (.int b) := by simp [pr]
theorem powLoop_is : ∀ (k : Nat) (s t u v : Int) (m n : Nat), Sm m s → Sm m t → Sm n u → Sm n v → m + 2 * (n * k) ≤ big →
    ∃ x' k', powLoop [some (pr u v, false), some (.int (k : Int), false), some (pr s t, false)] = .nx [x', k', some (pr (s * u ^ k) (t * v ^ k), false)] := by
  intro k
  induction k using Nat.strongRecOn with
  | ind k ih =>
    intro s t u v m n hs ht hu hv hb
    unfold powLoop
    rw [while_eq]
    by_cases hk : k = 0
    · subst hk
      simp [pr]
    · have hk3 : 0 < k := by omega
      have key : ∃ h, h = k / 2 := ⟨_, rfl⟩
      obtain ⟨h, hh⟩ := key
      obtain ⟨o, ho⟩ : ∃ o, o = k % 2 := ⟨_, rfl⟩
      have hk2 : ((k : Int) / 2) = (h : Int) := by omega
      have hmod : (k : Int) % 2 = (o : Int) := by omega
      have e1 : n ≤ n * k := Nat.le_mul_of_pos_right _ hk3
      have e2 : n * k = 2 * (n * h) + n * o := by
        have : k = 2 * h + o := by omega
        conv => lhs; rw [this, Nat.mul_add]
        rw [Nat.mul_left_comm]
      have e3 : 2 * n * h = 2 * (n * h) := Nat.mul_assoc _ _ _
      have ms : dMul (.int s) (.int u) = .ok (.int (s * u)) := dMul_int hs hu (by omega)
      have mt : dMul (.int t) (.int v) = .ok (.int (t * v)) := dMul_int ht hv (by omega)
      have mu : dMul (.int u) (.int u) = .ok (.int (u * u)) := dMul_int hu hu (by omega)
      have mv : dMul (.int v) (.int v) = .ok (.int (v * v)) := dMul_int hv hv (by omega)
      have pw : ∀ z : Int, (z * z) ^ h = z ^ (2 * h) := fun z => by rw [Int.pow_mul, show z ^ 2 = z * z from by rw [Int.pow_succ, Int.pow_succ, Int.pow_zero, Int.one_mul]]
      have hlt : h < k := by omega
      have ho2 : o = 1 ∨ o = 0 := by omega
      rcases ho2 with ho1 | ho1
      · subst ho1
        have pz : ∀ x z : Int, x * z * z ^ (2 * h) = x * z ^ k := fun x z => by
          have : k = 2 * h + 1 := by omega
          conv => rhs; rw [this, Int.pow_succ]
          rw [Int.mul_assoc, Int.mul_comm z]
        by_cases h0 : h = 0
        · have k1 : k = 1 := by omega
          subst k1
          subst h0
          have hk4 : ((1 : Nat) : Int).fmod 2 = 1 := by decide
          simp [ms, mt, pr]
          rw [while_eq]
          simp [Int.pow_succ]
        · have hz : 0 < h := by omega
          rw [Nat.mul_one] at e2
          obtain ⟨x', k', q⟩ := ih h hlt (s * u) (t * v) (u * u) (v * v) (m + n) (2 * n) (hs.mul hu) (ht.mul hv) ((hu.mul hu).mono (by omega)) ((hv.mul hv).mono (by omega)) (by omega)
          rw [pw, pw, pz, pz] at q
          unfold powLoop at q
          refine ⟨x', k', ?_⟩
          rw [← q]
          clear q ih pw pz
          simp [hk3, hmod, ms, mt, mu, mv, hk2, hz, pr]
      · subst ho1
        have pz : ∀ z : Int, z ^ (2 * h) = z ^ k := fun z => by
          congr 1; omega
        have hz : 0 < h := by omega
        obtain ⟨x', k', q⟩ := ih h hlt s t (u * u) (v * v) m (2 * n) hs ht ((hu.mul hu).mono (by omega)) ((hv.mul hv).mono (by omega)) (by omega)
        rw [pw, pw, pz, pz] at q
        unfold powLoop at q
        refine ⟨x', k', ?_⟩
        rw [← q]
        clear q ih pw pz
        simp [hk3, hmod, ms, mt, mu, mv, hk2, hz, pr]
theorem pow_def (u v : Int) (k n : Nat) (hu : Sm n u) (hv : Sm n v) (h : 1 + 2 * (n * k) ≤ big) : runDef 2 3 powBody [pr u v, .int (k : Int)] = .ok (pr (u ^ k) (v ^ k)) := by
  refine runDef_rt ?_
  obtain ⟨x', k', q⟩ := powLoop_is k 1 1 u v 1 n (by show 1 < 2 ^ 1; decide) (by show 1 < 2 ^ 1; decide) hu hv h
  rw [Int.one_mul, Int.one_mul] at q
  unfold powBody
  unfold pr at *
  simp [env0, q]
end DL

/-! spreads, plainly -/
namespace DL
open PySem PySem.Spec PyProof.Rows L2
open PySem.Builtin.Int (intBits)
@[simp] theorem dIxA_lst (xs : List D) (i : D) : dIxA (.lst xs) i = dIx (.lst xs) i := rfl
@[simp] theorem dIxA_tup (xs : List D) (i : D) : dIxA (.tup xs) i = dIx (.tup xs) i := rfl
@[simp] theorem dIxA_con (xs : List D) (i : D) : dIxA (.con xs) i = dIx (.con xs) i := rfl
@[simp] theorem dIxA_dct (t : Bool) (kvs : List (D × D)) (i : D) : dIxA (.dct t kvs) i = dAt (.dct t kvs) i := rfl
/-- answers: numbers only -/
def ans (k : List Int) : D := .tup (k.map D.int)
theorem ints_inj : ∀ {a b : List Int}, a.map D.int = b.map D.int → a = b
  | [], [], _ => rfl
  | [], _ :: _, h => by cases h
  | _ :: _, [], h => by cases h
  | x :: a, y :: b, h => by
    rw [List.map_cons, List.map_cons, List.cons.injEq] at h
    cases h.1
    rw [ints_inj h.2]
theorem ans_inj {a b : List Int} (h : ans a = ans b) : a = b := ints_inj (by unfold ans at h; injection h)
theorem ans_iff {a b : List Int} : ans a = ans b ↔ a = b := ⟨ans_inj, fun h => by rw [h]⟩
@[simp] theorem ans_key (k : List Int) : D.keyOk true (ans k) = true := by
  simp [ans, D.keyOk, D.isKey]
def kvD (m : List (List Int × Rat)) : List (D × D) := m.map fun p => (ans p.1, shr p.2)
def getR (m : List (List Int × Rat)) (k : List Int) : Option Rat := (m.find? fun p => decide (p.1 = k)).map (·.2)
def putR (m : List (List Int × Rat)) (k : List Int) (x : Rat) : List (List Int × Rat) := if (m.any fun p => decide (p.1 = k)) = true then m.map (fun p => if p.1 = k then (p.1, x) else p) else m ++ [(k, x)]
theorem find_kv (m : List (List Int × Rat)) (k : List Int) : dFind (kvD m) (ans k) = (getR m k).map shr := by
  unfold dFind getR kvD
  induction m with
  | nil => rfl
  | cons p m ih =>
    rw [List.map_cons, List.find?_cons, List.find?_cons]
    by_cases h : p.1 = k
    · have h1 : ans p.1 = ans k := by rw [h]
      simp [h, h1]
    · have h2 : ans p.1 ≠ ans k := fun z => h (ans_inj z)
      simp only [h, h2, decide_false]
      exact ih
theorem set_kv (m : List (List Int × Rat)) (k : List Int) (x : Rat) : dSet (kvD m) (ans k) (shr x) = kvD (putR m k x) := by
  unfold dSet putR
  have e : ((kvD m).any fun p => @decide (p.1 = ans k) (Classical.propDecidable _)) = m.any fun p => decide (p.1 = k) := by
    unfold kvD
    rw [List.any_map]
    congr 1
    funext p
    simp [ans_iff]
  rw [e]
  split
  · unfold kvD
    rw [List.map_map, List.map_map]
    apply List.map_congr_left
    intro p _
    by_cases h : p.1 = k
    · simp [h]
    · have h2 : ans p.1 ≠ ans k := fun z => h (ans_inj z)
      simp [h, h2]
  · simp [kvD]
/-- one more pair -/
def stepR (m : List (List Int × Rat)) (p : List Int × Rat) : List (List Int × Rat) := putR m p.1 ((getR m p.1).getD 0 + p.2)
def totR (ps : List (List Int × Rat)) (k : List Int) : Rat := ps.foldl (fun t p => if p.1 = k then t + p.2 else t) 0
theorem any_key {m : List (List Int × Rat)} {k : List Int} : (m.any fun p => decide (p.1 = k)) = true ↔ k ∈ m.map (·.1) := by
  rw [List.any_eq_true, List.mem_map]
  constructor
  · rintro ⟨p, h, e⟩; exact ⟨p, h, by simpa using e⟩
  · rintro ⟨p, h, e⟩; exact ⟨p, h, by simpa using e⟩
theorem put_keys (m : List (List Int × Rat)) (k : List Int) (x : Rat) : (putR m k x).map (·.1) = if k ∈ m.map (·.1) then m.map (·.1) else m.map (·.1) ++ [k] := by
  unfold putR
  by_cases h : k ∈ m.map (·.1)
  · rw [if_pos (any_key.mpr h), if_pos h, List.map_map]
    apply List.map_congr_left
    intro p _
    show (if p.1 = k then (p.1, x) else p).1 = p.1
    split <;> rfl
  · rw [if_neg (fun z => h (any_key.mp z)), if_neg h, List.map_append]; rfl
theorem get_some {m : List (List Int × Rat)} {k : List Int} : (getR m k).isSome = true ↔ k ∈ m.map (·.1) := by
  unfold getR
  rw [Option.isSome_map, List.find?_isSome, List.mem_map]
  constructor
  · rintro ⟨p, h, e⟩; exact ⟨p, h, by simpa using e⟩
  · rintro ⟨p, h, e⟩; exact ⟨p, h, by simpa using e⟩
theorem get_none {m : List (List Int × Rat)} {k : List Int} (h : k ∉ m.map (·.1)) : getR m k = none := by
  cases e : getR m k with
  | none => rfl
  | some x => exact absurd (get_some.mp (by rw [e]; rfl)) h
theorem put_get_self (m : List (List Int × Rat)) (k : List Int) (x : Rat) : getR (putR m k x) k = some x := by
  unfold putR
  split
  · rename_i h
    induction m with
    | nil => simp at h
    | cons p m ih =>
      unfold getR
      rw [List.map_cons, List.find?_cons]
      by_cases hp : p.1 = k
      · simp [hp]
      · simp only [if_neg hp, decide_eq_false hp]
        have h' : (m.any fun p => decide (p.1 = k)) = true := by simpa [hp] using h
        exact ih h'
  · rename_i h
    unfold getR
    rw [List.find?_append]
    have : m.find? (fun p => decide (p.1 = k)) = none := by
      cases e : m.find? (fun p => decide (p.1 = k)) with
      | none => rfl
      | some p =>
        exfalso
        apply h
        rw [List.any_eq_true]
        exact ⟨p, List.mem_of_find?_eq_some e, List.find?_some (p := fun p : List Int × Rat => decide (p.1 = k)) e⟩
    rw [this]
    simp
theorem put_get_ne {m : List (List Int × Rat)} {k j : List Int} (x : Rat) (h : j ≠ k) : getR (putR m k x) j = getR m j := by
  unfold putR
  split
  · induction m with
    | nil => rfl
    | cons p m ih =>
      unfold getR at *
      rw [List.map_cons, List.find?_cons, List.find?_cons]
      by_cases hp : p.1 = k
      · have hj : p.1 ≠ j := fun z => h (by rw [← z, hp])
        simp only [if_pos hp, decide_eq_false hj]
        rename_i hh
        by_cases h3 : (m.any fun p => decide (p.1 = k)) = true
        · exact ih h3
        · have : m.map (fun p => if p.1 = k then (p.1, x) else p) = m := by
            conv => rhs; rw [← List.map_id m]
            apply List.map_congr_left
            intro q hq
            rw [if_neg]
            · rfl
            · intro z
              apply h3
              rw [List.any_eq_true]
              exact ⟨q, hq, by simpa using z⟩
          rw [this]
      · simp only [if_neg hp]
        by_cases hj : p.1 = j
        · simp [hj]
        · simp only [decide_eq_false hj]
          rename_i hh
          exact ih (by simpa [hp] using hh)
  · unfold getR
    rw [List.find?_append]
    cases m.find? (fun p => decide (p.1 = j)) with
    | some p => rfl
    | none => simp [Ne.symm h]
/-- what the sums are after so many pairs -/
structure SumsOf (m ps : List (List Int × Rat)) : Prop where
  nd : (m.map (·.1)).Nodup
  ks : ∀ k, k ∈ m.map (·.1) ↔ k ∈ ps.map (·.1)
  gt : ∀ k, k ∈ ps.map (·.1) → getR m k = some (totR ps k)
  ln : m.length ≤ ps.length
theorem tot_snoc (ps : List (List Int × Rat)) (p : List Int × Rat) (k : List Int) : totR (ps ++ [p]) k = if p.1 = k then totR ps k + p.2 else totR ps k := by
  unfold totR
  rw [List.foldl_append]
  rfl
theorem tot_none {ps : List (List Int × Rat)} {k : List Int} (h : k ∉ ps.map (·.1)) : totR ps k = 0 := by
  unfold totR
  have gen : ∀ (ps : List (List Int × Rat)) (t : Rat), k ∉ ps.map (·.1) → ps.foldl (fun t p => if p.1 = k then t + p.2 else t) t = t := by
    intro ps
    induction ps with
    | nil => intro t _; rfl
    | cons p ps ih =>
      intro t h
      rw [List.map_cons, List.mem_cons] at h
      rw [List.foldl_cons, if_neg (fun z => h (.inl z.symm))]
      exact ih t fun z => h (.inr z)
  exact gen ps 0 h
theorem SumsOf.step {m ps : List (List Int × Rat)} (S : SumsOf m ps) (p : List Int × Rat) : SumsOf (stepR m p) (ps ++ [p]) := by
  have hk := put_keys m p.1 ((getR m p.1).getD 0 + p.2)
  have ht : (getR m p.1).getD 0 = totR ps p.1 := by
    by_cases h : p.1 ∈ ps.map (·.1)
    · rw [S.gt _ h]; rfl
    · rw [get_none (fun z => h ((S.ks _).mp z)), tot_none h]; rfl
  refine ⟨?_, fun k => ?_, fun k h => ?_, ?_⟩
  · unfold stepR
    rw [hk]
    split
    · exact S.nd
    · rename_i h
      rw [List.nodup_append]
      refine ⟨S.nd, by simp, ?_⟩
      intro a ha b hb
      rw [List.mem_singleton] at hb
      subst hb
      intro e
      subst e
      exact h ha
  · unfold stepR
    rw [hk, List.map_append, List.mem_append, ← S.ks k]
    split
    · rename_i h
      constructor
      · exact .inl
      · rintro (z | z)
        · exact z
        · rw [show k = p.1 by simpa using z]; exact h
    · rw [List.mem_append]; rfl
  · rw [tot_snoc]
    unfold stepR
    by_cases e : p.1 = k
    · subst e
      rw [put_get_self, ht, if_pos rfl]
    · rw [put_get_ne _ (Ne.symm e), if_neg e]
      rw [List.map_append, List.mem_append] at h
      rcases h with z | z
      · exact S.gt _ z
      · exact absurd (by simpa using z : k = p.1).symm e
  · have := congrArg List.length hk
    rw [List.length_map] at this
    unfold stepR
    rw [this, List.length_append]
    have l := S.ln
    split
    · rw [List.length_map]; simp; omega
    · rw [List.length_append, List.length_map]; simp; omega
theorem SumsOf.nil : SumsOf [] [] := ⟨List.nodup_nil, fun k => Iff.rfl, fun k h => absurd h List.not_mem_nil, Nat.le_refl _⟩
theorem SumsOf.all : ∀ (qs : List (List Int × Rat)) {m ps : List (List Int × Rat)}, SumsOf m ps → SumsOf (qs.foldl stepR m) (ps ++ qs)
  | [], m, ps, S => by rw [List.append_nil]; exact S
  | q :: qs, m, ps, S => by
    have := SumsOf.all qs (S.step q)
    rw [List.append_assoc] at this
    exact this
/-! ### order of answers -/
def lexB : List Int → List Int → Bool
  | [], [] => false
  | [], _ :: _ => true
  | _ :: _, [] => false
  | x :: r, y :: t => decide (x < y) || (!decide (y < x) && lexB r t)
theorem lt_ans : ∀ (a b : List Int), D.lt (ans a) (ans b) = lexB a b := by
  have gen : ∀ (a b : List Int), PyProof.Rows.lexLt itemOrd (PySem.W.keyToksAll (D.pys (a.map D.int))) (PySem.W.keyToksAll (D.pys (b.map D.int))) = lexB a b := by
    intro a
    induction a with
    | nil =>
      intro b
      cases b with
      | nil => simp [D.pys, PySem.W.keyToksAll, lexB]; decide
      | cons y b =>
        simp only [List.map_nil, List.map_cons, D.pys, PySem.W.keyToksAll, lexB]
        rw [PyProof.Rows.lex_cons]
        show (decide ((0 : Int) < 1) || _) = true
        simp
    | cons x a ih =>
      intro b
      cases b with
      | nil =>
        simp only [List.map_nil, List.map_cons, D.pys, PySem.W.keyToksAll, lexB]
        rw [PyProof.Rows.lex_cons]
        show (decide ((1 : Int) < 0) || (!decide ((0 : Int) < 1) && _)) = false
        simp
      | cons y b =>
        simp only [List.map_cons, D.pys, D.py, PySem.W.keyToksAll, PySem.W.keyToks, lexB, List.cons_append, List.nil_append]
        rw [PyProof.Rows.lex_cons, PyProof.Rows.lex_cons, ih b]
        show (decide ((1 : Int) < 1) || (!decide ((1 : Int) < 1) && (decide (x < y) || (!decide (y < x) && lexB a b)))) = _
        simp
  intro a b
  exact gen a b
def leB (a b : List Int) : Bool := !lexB b a
theorem le_ans (a b : List Int) : D.le (ans a) (ans b) = leB a b := by
  unfold D.le leB
  rw [lt_ans]
theorem lexB_irr : ∀ a, lexB a a = false
  | [] => rfl
  | x :: r => by simp [lexB, lexB_irr r]
theorem lexB_trans : ∀ {a b c : List Int}, lexB a b = true → lexB b c = true → lexB a c = true
  | [], [], _, h, _ => by cases h
  | [], _ :: _, [], _, h => by simp [lexB] at h
  | [], _ :: _, _ :: _, _, _ => rfl
  | _ :: _, [], _, h, _ => by simp [lexB] at h
  | _ :: _, _ :: _, [], _, h => by simp [lexB] at h
  | x :: a, y :: b, z :: c, h, k => by
    simp only [lexB, Bool.or_eq_true, decide_eq_true_eq, Bool.and_eq_true, Bool.not_eq_true', decide_eq_false_iff_not] at *
    rcases h with h | ⟨h, h2⟩ <;> rcases k with k | ⟨k, k2⟩
    · exact .inl (by omega)
    · exact .inl (by omega)
    · exact .inl (by omega)
    · exact .inr ⟨by omega, lexB_trans h2 k2⟩
theorem lexB_tri : ∀ {a b : List Int}, lexB a b = false → lexB b a = false → a = b
  | [], [], _, _ => rfl
  | [], _ :: _, h, _ => by simp [lexB] at h
  | _ :: _, [], _, h => by simp [lexB] at h
  | x :: a, y :: b, h, k => by
    simp only [lexB, Bool.or_eq_false_iff, decide_eq_false_iff_not, Bool.and_eq_false_iff, Bool.not_eq_false', decide_eq_true_eq] at *
    have e : x = y := by omega
    subst e
    have h2 : lexB a b = false := h.2.resolve_left (by omega)
    have k2 : lexB b a = false := k.2.resolve_left (by omega)
    rw [lexB_tri h2 k2]
theorem leB_trans (a b c : List Int) (h : leB a b = true) (k : leB b c = true) : leB a c = true := by
  unfold leB at *
  simp only [Bool.not_eq_true'] at *
  cases e : lexB c a with
  | false => rfl
  | true =>
    exfalso
    cases f : lexB b c with
    | true => rw [lexB_trans f e] at h; cases h
    | false =>
      have := lexB_tri f k
      subst this
      rw [e] at h; cases h
theorem leB_total (a b : List Int) : (leB a b || leB b a) = true := by
  unfold leB
  cases e : lexB a b with
  | false => simp
  | true =>
    cases f : lexB b a with
    | false => simp
    | true => have := lexB_trans e f; rw [lexB_irr] at this; cases this
/-- two lists that rise strictly and have the same members are one -/
theorem rise_ext : ∀ {a b : List (List Int)}, a.Pairwise (fun x y => lexB x y = true) → b.Pairwise (fun x y => lexB x y = true) → (∀ k, k ∈ a ↔ k ∈ b) → a = b
  | [], [], _, _, _ => rfl
  | [], y :: b, _, _, h => absurd ((h y).mpr List.mem_cons_self) List.not_mem_nil
  | x :: a, [], _, _, h => absurd ((h x).mp List.mem_cons_self) List.not_mem_nil
  | x :: a, y :: b, ha, hb, h => by
    rw [List.pairwise_cons] at ha hb
    have e : x = y := by
      have h1 := (h x).mp List.mem_cons_self
      have h2 := (h y).mpr List.mem_cons_self
      rw [List.mem_cons] at h1 h2
      rcases h1 with h1 | h1
      · exact h1
      · rcases h2 with h2 | h2
        · exact h2.symm
        · have := lexB_trans (ha.1 _ h2) (hb.1 _ h1)
          rw [lexB_irr] at this; cases this
    subst e
    congr 1
    refine rise_ext ha.2 hb.2 fun k => ?_
    have := h k
    rw [List.mem_cons, List.mem_cons] at this
    constructor
    · intro z
      rcases this.mp (.inr z) with w | w
      · subst w; have := ha.1 _ z; rw [lexB_irr] at this; cases this
      · exact w
    · intro z
      rcases this.mpr (.inr z) with w | w
      · subst w; have := hb.1 _ z; rw [lexB_irr] at this; cases this
      · exact w
def sortK (ks : List (List Int)) : List (List Int) := ks.mergeSort leB
theorem sortK_mem {ks : List (List Int)} {k : List Int} : k ∈ sortK ks ↔ k ∈ ks := List.mem_mergeSort
theorem sortK_rise {ks : List (List Int)} (h : ks.Nodup) : (sortK ks).Pairwise (fun x y => lexB x y = true) := by
  have p : (sortK ks).Pairwise (fun a b => leB a b = true) := List.pairwise_mergeSort (fun a b c h k => leB_trans a b c h k) (fun a b => leB_total a b) ks
  have n : (sortK ks).Nodup := (List.mergeSort_perm ks leB).nodup_iff.mpr h
  refine (p.and n).imp fun {a b} z => ?_
  cases e : lexB a b with
  | true => rfl
  | false =>
    have z1 := z.1
    unfold leB at z1
    exact absurd (lexB_tri e (by simpa using z1)) z.2
theorem sortD_ans (ks : List (List Int)) : sortD (ks.map ans) = (sortK ks).map ans := by
  unfold sortD sortK
  rw [List.map_mergeSort]
  intro a _ b _
  exact (le_ans a b).symm
theorem ints_pl (n : Nat) (k : List Int) : D.pls (k.map D.int) n = true := pls_all fun d hd => by
  obtain ⟨i, _, rfl⟩ := List.mem_map.mp hd
  rfl
theorem ans_pl (k : List Int) (n : Nat) : (ans k).pl (n + 1) = true := ints_pl n k
theorem ans_alike : ∀ (a b : List Int), PySem.W.alike (ans a).py (ans b).py = true := by
  have gen : ∀ (a b : List Int), PySem.W.alikeAll (D.pys (a.map D.int)) (D.pys (b.map D.int)) = true := by
    intro a
    induction a with
    | nil => intro b; cases b <;> simp [D.pys, PySem.W.alikeAll]
    | cons x a ih =>
      intro b
      cases b with
      | nil => simp [D.pys, PySem.W.alikeAll]
      | cons y b => simp only [List.map_cons, D.pys, D.py, PySem.W.alikeAll, PySem.W.alike, ih b]; rfl
  intro a b
  exact gen a b
theorem sortOk_ans {ks : List (List Int)} (h : ks.length ≤ sizeLine) : SortOk (ks.map ans) := by
  refine ⟨by rw [List.length_map]; exact h, ?_, ?_, .inl ?_⟩
  · intro x hx; obtain ⟨k, _, rfl⟩ := List.mem_map.mp hx; exact ans_pl k 49
  · intro x hx y hy
    obtain ⟨k, _, rfl⟩ := List.mem_map.mp hx
    obtain ⟨j, _, rfl⟩ := List.mem_map.mp hy
    exact ans_alike k j
  · intro x hx; obtain ⟨k, _, rfl⟩ := List.mem_map.mp hx; exact ⟨_, rfl⟩
theorem kv_keys (m : List (List Int × Rat)) : (kvD m).map (·.1) = (m.map (·.1)).map ans := by
  unfold kvD
  rw [List.map_map, List.map_map]
  rfl
theorem sorted_kv {m : List (List Int × Rat)} (h : m.length ≤ sizeLine) (t : Bool) : dSorted (.dct t (kvD m)) = .ok (.lst ((sortK (m.map (·.1))).map ans)) := by
  unfold dSorted D.items
  dsimp only
  rw [kv_keys, if_pos (sortOk_ans (by rw [List.length_map]; exact h)), sortD_ans]
/-! ### comprehensions -/
theorem comp_filter {e : DL.Env} {p : Pat} {ft : DL.Env → Res Bool} {fe : DL.Env → Res D} (b : D → Bool) (g : D → D) : ∀ {ds : List D}, (∀ d ∈ ds, ∃ e1, p.bind d e = .ok e1 ∧ ft e1 = .ok (b d) ∧ (b d = true → fe e1 = .ok (g d))) → compL e p ft fe ds = .ok ((ds.filter b).map g)
  | [], _ => rfl
  | d :: ds, h => by
    obtain ⟨e1, h1, h2, h3⟩ := h d List.mem_cons_self
    have ih := comp_filter b g (ds := ds) fun x hx => h x (List.mem_cons_of_mem _ hx)
    unfold compL
    rw [h1]
    dsimp only
    rw [h2]
    cases hb : b d with
    | true =>
      dsimp only
      rw [h3 hb]
      dsimp only
      rw [ih, List.filter_cons, if_pos hb]
      rfl
    | false =>
      dsimp only
      rw [ih, List.filter_cons, if_neg (by rw [hb]; decide)]
theorem comp_all {e : DL.Env} {p : Pat} {ft : DL.Env → Res Bool} {fe : DL.Env → Res D} (g : D → D) {ds : List D} (h : ∀ d ∈ ds, ∃ e1, p.bind d e = .ok e1 ∧ ft e1 = .ok true ∧ fe e1 = .ok (g d)) : compL e p ft fe ds = .ok (ds.map g) := by
  have := comp_filter (e := e) (p := p) (ft := ft) (fe := fe) (fun _ => true) g (ds := ds) fun d hd => by
    obtain ⟨e1, a, b, c⟩ := h d hd
    exact ⟨e1, a, b, fun _ => c⟩
  rw [this, List.filter_eq_self.mpr (fun _ _ => rfl)]
/-! ### spreads -/
def spPairD (p : List Int × Rat) : D := .tup [ans p.1, shr p.2]
def sprD (l : List (List Int × Rat)) : D := .tup (l.map spPairD)
/-- what putting together makes -/
def mkSpr (ps : List (List Int × Rat)) : List (List Int × Rat) := ((sortK ((ps.foldl stepR []).map (·.1))).filter fun k => decide (totR ps k ≠ 0)).map fun k => (k, totR ps k)
theorem mkSpr_is {ps : List (List Int × Rat)} {L : List (List Int)} (hr : L.Pairwise (fun x y => lexB x y = true)) (hm : ∀ k, k ∈ L ↔ k ∈ ps.map (·.1) ∧ totR ps k ≠ 0) : mkSpr ps = L.map fun k => (k, totR ps k) := by
  unfold mkSpr
  congr 1
  have S := SumsOf.all ps SumsOf.nil
  rw [List.nil_append] at S
  refine rise_ext ((sortK_rise S.nd).filter _) hr fun k => ?_
  rw [List.mem_filter, sortK_mem, S.ks, hm]
  simp
/-! ### dicts, step by step -/
@[simp] theorem ownD_app (i : Nat) (e : DL.Env) (k : Bool → List (D × D) → Out) : ownD i e k = (match e[i]? with | some (some (.dct t kvs, true)) => k t kvs | _ => .bad) := Eq.trans rfl rfl
@[simp] theorem sPutD_app (al : List Nat) (i : Nat) (fk fv : DL.Env → Res D) (e : DL.Env) : sPutD al i fk fv e = ownD i (fz al e) fun t kvs => sE al (fun e => (fv e).bind fun v => (fk e).bind fun k => .ok (k, v)) (fun kv e' =>
  if D.keyOk t kv.1 = true ∧ kvs.length < sizeLine then .nx (e'.set i (some (.dct t (dSet kvs kv.1 kv.2), true))) else .bad) e := Eq.trans rfl rfl
@[simp] theorem eGet2_app (fa fb fc : DL.Env → Res D) (e : DL.Env) : eGet2 fa fb fc e = (fa e).bind fun d => match d with
  | .dct t kvs => (fb e).bind fun k => (fc e).bind fun x => dGet2 (.dct t kvs) k x
  | _ => .bad := Eq.trans rfl rfl
@[simp] theorem eDNew_app (t : Bool) (e : DL.Env) : eDNew t e = .ok (.dct t []) := Eq.trans rfl rfl
theorem get2_kv (m : List (List Int × Rat)) (k : List Int) (x : Rat) : dGet2 (.dct true (kvD m)) (ans k) (shr x) = .ok (shr ((getR m k).getD x)) := by
  unfold dGet2
  dsimp only
  rw [if_pos (ans_key k), find_kv]
  cases getR m k <;> rfl
theorem at_kv {m : List (List Int × Rat)} {k : List Int} {x : Rat} (h : getR m k = some x) : dAt (.dct true (kvD m)) (ans k) = .ok (shr x) := by
  unfold dAt
  dsimp only
  rw [if_pos (ans_key k), find_kv, h]
  rfl
theorem kv_len (m : List (List Int × Rat)) : (kvD m).length = m.length := by unfold kvD; rw [List.length_map]
theorem tot_mem : ∀ {ps : List (List Int × Rat)} {p : List Int × Rat}, (ps.map (·.1)).Nodup → p ∈ ps → totR ps p.1 = p.2 := by
  have keep : ∀ (ps : List (List Int × Rat)) (k : List Int) (t : Rat), k ∉ ps.map (·.1) → ps.foldl (fun t p => if p.1 = k then t + p.2 else t) t = t := by
    intro ps
    induction ps with
    | nil => intro k t _; rfl
    | cons p ps ih =>
      intro k t h
      rw [List.map_cons, List.mem_cons] at h
      rw [List.foldl_cons, if_neg (fun z => h (.inl z.symm))]
      exact ih k t fun z => h (.inr z)
  have gen : ∀ (ps : List (List Int × Rat)) (p : List Int × Rat) (t : Rat), (ps.map (·.1)).Nodup → p ∈ ps → ps.foldl (fun t q => if q.1 = p.1 then t + q.2 else t) t = t + p.2 := by
    intro ps
    induction ps with
    | nil => intro p t _ h; cases h
    | cons q ps ih =>
      intro p t hn h
      rw [List.map_cons, List.nodup_cons] at hn
      rw [List.foldl_cons]
      rw [List.mem_cons] at h
      rcases h with h | h
      · subst h
        rw [if_pos rfl, keep _ _ _ hn.1]
      · have ne : q.1 ≠ p.1 := fun z => hn.1 (z ▸ List.mem_map.mpr ⟨p, h, rfl⟩)
        rw [if_neg ne]
        exact ih p t hn.2 h
  intro ps p hn h
  unfold totR
  rw [gen ps p 0 hn h, Rat.zero_add]
theorem rise_nodup {ks : List (List Int)} (h : ks.Pairwise (fun x y => lexB x y = true)) : ks.Nodup := h.imp fun {a b} z e => by
  subst e
  rw [lexB_irr] at z; cases z
/-- pairs that rise already stay as they are -/
theorem mkSpr_self {ps : List (List Int × Rat)} (h : (ps.map (·.1)).Pairwise (fun x y => lexB x y = true)) (h0 : ∀ p ∈ ps, p.2 ≠ 0) : mkSpr ps = ps := by
  have nd := rise_nodup h
  rw [mkSpr_is h fun k => ?_, List.map_map]
  · conv => rhs; rw [← List.map_id ps]
    apply List.map_congr_left
    intro p hp
    show (p.1, totR ps p.1) = p
    rw [tot_mem nd hp]
  · constructor
    · intro hk
      obtain ⟨p, hp, rfl⟩ := List.mem_map.mp hk
      refine ⟨hk, ?_⟩
      rw [tot_mem nd hp]
      exact h0 p hp
    · exact fun z => z.1
theorem sumR_snoc (l : List Rat) (x : Rat) : sumR (l ++ [x]) = sumR l + x := by
  unfold sumR
  rw [List.foldl_append]
  rfl
theorem smr_pow {n m : Nat} {x : Rat} (h : SmR n m x) (k : Nat) : SmR (n * k + 1) (m * k + 1) (x ^ k) := by
  refine ⟨?_, ?_⟩
  · rw [Rat.num_pow]; exact h.1.pow k
  · rw [Rat.den_pow, Int.natCast_pow]; exact h.2.pow k
theorem rangeD_prog (i j : Int) : rangeD i j = prog3 i 1 (j - i).toNat := by
  unfold rangeD prog3
  apply List.map_congr_left
  intro k _
  rw [Int.mul_one]
theorem shr_of (a : Int) (b : Nat) (hb : b ≠ 0) : Rat.divInt a b = (a : Rat) / (b : Rat) := by
  rw [Rat.divInt_eq_div, Rat.intCast_natCast]
/-! ### falling shares come to one -/
/-- the share at place i of a window with d + 1 places, falling from place a -/
def fallAt (r : Rat) (a d i : Nat) : Rat := (if i = 0 ∨ i = d then 1 / (1 + r) else (1 - r) / (1 + r)) * r ^ ((i - a) + (a - i))
theorem fall_pre {r : Rat} (hr : 0 < r) {a d : Nat} (had : a ≤ d) : ∀ k, k < d → sumR ((List.range (k + 1)).map (fallAt r a d)) = if k ≤ a then r ^ (a - k) * (1 / (1 + r)) else 1 - r ^ (k + 1 - a) * (1 / (1 + r)) := by
  have h1 : (1 + r) ≠ 0 := by grind
  intro k
  induction k with
  | zero =>
    intro hk
    have e1 : sumR ((List.range (0 + 1)).map (fallAt r a d)) = 0 + fallAt r a d 0 := rfl
    rw [e1, Rat.zero_add, if_pos (Nat.zero_le _)]
    unfold fallAt
    rw [if_pos (.inl rfl), Nat.zero_sub, Nat.zero_add, Nat.sub_zero, Rat.mul_comm]
  | succ k ih =>
    intro hk
    rw [List.range_succ, List.map_append, show List.map (fallAt r a d) [k + 1] = [fallAt r a d (k + 1)] from rfl, sumR_snoc, ih (by omega)]
    unfold fallAt
    rw [if_neg (show ¬ (k + 1 = 0 ∨ k + 1 = d) by omega)]
    by_cases h : k + 1 ≤ a
    · rw [if_pos (by omega), if_pos h, show (k + 1 - a) + (a - (k + 1)) = a - (k + 1) by omega, show a - k = a - (k + 1) + 1 by omega, Rat.pow_succ]
      grind
    · rw [if_neg h]
      by_cases h2 : k ≤ a
      · have hka : k = a := by omega
        subst hka
        rw [if_pos (Nat.le_refl _), Nat.sub_self, show (k + 1 - k) + (k - (k + 1)) = 1 by omega, show k + 1 + 1 - k = 2 by omega, Rat.pow_zero]
        have e2 : r ^ 2 = r * r := by rw [Rat.pow_succ, Rat.pow_succ, Rat.pow_zero, Rat.one_mul]
        have e3 : r ^ 1 = r := by rw [Rat.pow_succ, Rat.pow_zero, Rat.one_mul]
        rw [e2, e3]
        grind
      · rw [if_neg h2, show (k + 1 - a) + (a - (k + 1)) = k + 1 - a by omega, show k + 1 + 1 - a = k + 1 - a + 1 by omega, Rat.pow_succ]
        grind
theorem fall_one {r : Rat} (hr : 0 < r) {a d : Nat} (had : a ≤ d) (hd : 0 < d) : sumR ((List.range (d + 1)).map (fallAt r a d)) = 1 := by
  have h1 : (1 + r) ≠ 0 := by grind
  obtain ⟨k, rfl⟩ : ∃ k, d = k + 1 := ⟨d - 1, by omega⟩
  rw [List.range_succ, List.map_append, show List.map (fallAt r a (k + 1)) [k + 1] = [fallAt r a (k + 1) (k + 1)] from rfl, sumR_snoc, fall_pre hr had k (by omega)]
  unfold fallAt
  rw [if_pos (show k + 1 = 0 ∨ k + 1 = k + 1 from .inr rfl)]
  by_cases h : k + 1 = a
  · subst h
    rw [if_pos (by omega), show (k + 1 - (k + 1)) + (k + 1 - (k + 1)) = 0 by omega, show k + 1 - k = 1 by omega, Rat.pow_zero]
    have e3 : r ^ 1 = r := by rw [Rat.pow_succ, Rat.pow_zero, Rat.one_mul]
    rw [e3]
    grind
  · by_cases h2 : k ≤ a
    · have hka : k = a := by omega
      subst hka
      rw [if_pos (Nat.le_refl _), Nat.sub_self, show (k + 1 - k) + (k - (k + 1)) = 1 by omega, Rat.pow_zero]
      have e3 : r ^ 1 = r := by rw [Rat.pow_succ, Rat.pow_zero, Rat.one_mul]
      rw [e3]
      grind
    · rw [if_neg h2, show (k + 1 - a) + (a - (k + 1)) = k + 1 - a by omega]
      grind
theorem rat_pow_pos {r : Rat} (h : 0 < r) : ∀ k : Nat, 0 < r ^ k
  | 0 => by rw [Rat.pow_zero]; decide
  | k + 1 => by rw [Rat.pow_succ]; exact Rat.mul_pos (rat_pow_pos h k) h
theorem fall_pos {r : Rat} (hr : 0 < r) (h1 : r < 1) (a d i : Nat) : 0 < fallAt r a d i := by
  unfold fallAt
  have hp : 0 < 1 + r := by grind
  refine Rat.mul_pos ?_ (rat_pow_pos hr _)
  have iv : 0 < (1 + r)⁻¹ := Rat.inv_pos.mpr hp
  split
  · rw [Rat.div_def, Rat.one_mul]; exact iv
  · rw [Rat.div_def]
    exact Rat.mul_pos (by grind) iv
@[simp] theorem sPutL_app (al : List Nat) (i : Nat) (fk fv : DL.Env → Res D) (e : DL.Env) : sPutL al i fk fv e = ownL i (fz al e) fun xs => sE al (fun e => (fv e).bind fun v => (fk e).bind fun k => .ok (k, v)) (fun kv e' => match kv.1 with
  | .int k => match ixN xs.length k with
    | some j => .nx (e'.set i (some (.lst (xs.set j kv.2), true)))
    | none => .bad
  | _ => .bad) e := Eq.trans rfl rfl
theorem ixN_nat {n j : Nat} (h : j < n) : ixN n (j : Int) = some j := by
  simp [ixN, h]
/-- a list over places, one changed -/
theorem over_set {f : Nat → D} {n t : Nat} {x : D} (h : t < n) : ((List.range n).map f).set t x = (List.range n).map fun j => if j = t then x else f j := by
  apply List.ext_getElem
  · simp
  · intro j h1 h2
    simp [List.getElem_set]
    by_cases e : t = j
    · subst e; simp
    · rw [if_neg e, if_neg (fun z => e z.symm)]
theorem over_get {f : Nat → D} {n t : Nat} (h : t < n) : ((List.range n).map f)[t]? = some (f t) := by
  simp [h]
@[simp] theorem bind_sp (ps : List Pat) (p : List Int × Rat) (e : DL.Env) : Pat.bind (.tp ps) (spPairD p) e = Pat.binds ps [ans p.1, shr p.2] e := Eq.trans rfl rfl
@[simp] theorem sp_0 (p : List Int × Rat) : dIx (spPairD p) (.int 0) = .ok (ans p.1) := dIx_tup0 _ _
@[simp] theorem sp_1 (p : List Int × Rat) : dIx (spPairD p) (.int 1) = .ok (shr p.2) := dIx_tup1 _ _ _
@[simp] theorem ans_0 (a : Int) (r : List Int) : dIx (ans (a :: r)) (.int 0) = .ok (.int a) := dIx_tup0 _ _
theorem ints_of : ∀ ns : List Int, D.ints (ns.map D.int) = some ns
  | [] => rfl
  | n :: r => by show (D.ints (r.map D.int)).map _ = _; rw [ints_of r]; rfl
@[simp] theorem dSum_ints (ns : List Int) : dSum (.lst (ns.map D.int)) = .ok (.int ns.sum) := by
  show (match D.ints (ns.map D.int) with | some ns => Res.ok (D.int ns.sum) | none => .bad) = _
  rw [ints_of]
/-- places and numbers -/
def natL (ws : List Nat) : List D := ws.map fun (w : Nat) => D.int (w : Int)
theorem natL_ints (ws : List Nat) : natL ws = (ws.map fun (w : Nat) => (w : Int)).map D.int := by
  unfold natL
  rw [List.map_map]; rfl
theorem nat_sum : ∀ ws : List Nat, (ws.map fun (w : Nat) => (w : Int)).sum = ((ws.sum : Nat) : Int)
  | [] => rfl
  | w :: r => by rw [List.map_cons, List.sum_cons, List.sum_cons, nat_sum r, Int.natCast_add]
@[simp] theorem dSum_nats (ws : List Nat) : dSum (.lst (natL ws)) = .ok (.int (ws.sum : Nat)) := by
  rw [natL_ints, dSum_ints, nat_sum]
theorem iEnum_app (f : DL.Env → Res D) (e : DL.Env) : DL.iEnum f e = (f e).bind fun x => match seqOf x with
  | some xs => .ok (enumT 0 xs)
  | none => .bad := rfl
/-- one turn that goes on -/
theorem turns_one {p : Pat} {body : DL.Env → Out} {d : D} {r : List D} {e e1 e2 : DL.Env} {R : Out} (hb : p.bind d e = .ok e1) (hs : body e1 = .nx e2) (hr : turns p body r e2 = R) : turns p body (d :: r) e = R := by
  unfold turns
  rw [hb]
  dsimp only
  rw [hs]
  exact hr
theorem turns_nil (p : Pat) (body : DL.Env → Out) (e : DL.Env) : turns p body [] e = .nx e := rfl
theorem seq_nx {g h : DL.Env → Out} {e e1 : DL.Env} {R : Out} (a : g e = .nx e1) (b : h e1 = R) : sSeq g h e = R := by
  rw [sSeq_app, a]
  exact b
theorem set_ok {i : Nat} {f : DL.Env → Res D} {e : DL.Env} {d : D} (h : f e = .ok d) : sSet [] i f e = .nx (e.set i (some (d, false))) := by
  rw [sSet_app, h]
  rfl
theorem setF_ok {i : Nat} {f : DL.Env → Res D} {e : DL.Env} {d : D} (h : f e = .ok d) : sSetF [] i f e = .nx (e.set i (some (d, true))) := by
  rw [sSetF_app, h]
  rfl
theorem set_al {al : List Nat} {i : Nat} {f : DL.Env → Res D} {e e1 : DL.Env} {d : D} (h : f e = .ok d) (h1 : (fz al e).set i (some (d, false)) = e1) : sSet al i f e = .nx e1 := by
  rw [sSet_app, h, ← h1]
theorem asg_ok {p : Pat} {f : DL.Env → Res D} {e e1 : DL.Env} {d : D} (h : f e = .ok d) (hb : p.bind d e = .ok e1) : sAsg [] p f e = .nx e1 := by
  rw [sAsg_app, h]
  show (match p.bind d e with | .ok e' => Out.nx e' | _ => .bad) = _
  rw [hb]
theorem for_nx {al : List Nat} {p : Pat} {fi : DL.Env → Res (List D)} {b : DL.Env → Out} {e : DL.Env} {ds : List D} {R : Out} (h : fi e = .ok ds) (ht : turns p b ds (fz al e) = R) : sFor al p fi b e = R := by
  rw [sFor_app, h]
  exact ht
theorem if_no {ft : DL.Env → Res Bool} {g h : DL.Env → Out} {e : DL.Env} {R : Out} (hb : ft e = .ok false) (hr : h e = R) : sIf [] ft g h e = R := by
  rw [sIf_app, hb]
  exact hr
theorem if_yes {ft : DL.Env → Res Bool} {g h : DL.Env → Out} {e : DL.Env} {R : Out} (hb : ft e = .ok true) (hr : g e = R) : sIf [] ft g h e = R := by
  rw [sIf_app, hb]
  exact hr
theorem ret_ok {al : List Nat} {f : DL.Env → Res D} {e : DL.Env} {d : D} {h : DL.Env → Out} (hf : f e = .ok d) : sSeq (sRet al f) h e = .rt d := by
  rw [sSeq_app, sRet_app, hf]
theorem seq_rt {g h : DL.Env → Out} {e : DL.Env} {d : D} (a : g e = .rt d) : sSeq g h e = .rt d := by
  rw [sSeq_app, a]
theorem mut_ok {al : List Nat} {i : Nat} {gm : List D → List D → Option (List D)} {fs : DL.Env → Res (List D)} {e e1 : DL.Env} {xs ys ds : List D} (hi : (fz al e)[i]? = some (some (.lst xs, true))) (hf : fs e = .ok ds) (hg : gm xs ds = some ys) (h1 : (fz al e).set i (some (.lst ys, true)) = e1) : sMut al i gm fs e = .nx e1 := by
  rw [sMut_app, ownL_app, hi]
  dsimp only
  rw [sE_app, hf]
  dsimp only
  rw [hg, ← h1]
theorem dIx_last (xs : List D) (d : D) : dIx (.lst (xs ++ [d])) (.int (-1)) = .ok d := by
  have e : ixN (xs.length + 1) (-1) = some xs.length := by
    unfold ixN
    rw [if_neg (by decide), if_pos (by omega)]
    congr 1
    omega
  simp [dIx, atI, e]
end DL

/-! dicts of any keys, plainly -/
namespace DL
open PySem PySem.Spec PyProof.Rows L2
open PySem.Builtin.Int (intBits)
section
variable {α β : Type} [DecidableEq α] {f : α → D} {g : β → D}
def kvG (f : α → D) (g : β → D) (m : List (α × β)) : List (D × D) := m.map fun p => (f p.1, g p.2)
def getG (m : List (α × β)) (k : α) : Option β := (m.find? fun p => decide (p.1 = k)).map (·.2)
def putG (m : List (α × β)) (k : α) (x : β) : List (α × β) := if (m.any fun p => decide (p.1 = k)) = true then m.map (fun p => if p.1 = k then (p.1, x) else p) else m ++ [(k, x)]
theorem find_kvG (hf : ∀ a b, f a = f b → a = b) (m : List (α × β)) (k : α) : dFind (kvG f g m) (f k) = (getG m k).map g := by
  unfold dFind getG kvG
  induction m with
  | nil => rfl
  | cons p m ih =>
    rw [List.map_cons, List.find?_cons, List.find?_cons]
    by_cases h : p.1 = k
    · have h1 : f p.1 = f k := by rw [h]
      simp [h, h1]
    · have h2 : f p.1 ≠ f k := fun z => h (hf _ _ z)
      simp only [h, h2, decide_false]
      exact ih
theorem set_kvG (hf : ∀ a b, f a = f b → a = b) (m : List (α × β)) (k : α) (x : β) : dSet (kvG f g m) (f k) (g x) = kvG f g (putG m k x) := by
  unfold dSet putG
  have e : ((kvG f g m).any fun p => @decide (p.1 = f k) (Classical.propDecidable _)) = m.any fun p => decide (p.1 = k) := by
    unfold kvG
    rw [List.any_map]
    congr 1
    funext p
    simp only [Function.comp]
    by_cases h : p.1 = k
    · simp [h]
    · have h2 : f p.1 ≠ f k := fun z => h (hf _ _ z)
      simp [h, h2]
  rw [e]
  split
  · unfold kvG
    rw [List.map_map, List.map_map]
    apply List.map_congr_left
    intro p _
    by_cases h : p.1 = k
    · simp [h]
    · have h2 : f p.1 ≠ f k := fun z => h (hf _ _ z)
      simp [h, h2]
  · simp [kvG]
theorem any_keyG {m : List (α × β)} {k : α} : (m.any fun p => decide (p.1 = k)) = true ↔ k ∈ m.map (·.1) := by
  rw [List.any_eq_true, List.mem_map]
  constructor
  · rintro ⟨p, h, e⟩; exact ⟨p, h, by simpa using e⟩
  · rintro ⟨p, h, e⟩; exact ⟨p, h, by simpa using e⟩
theorem put_keysG (m : List (α × β)) (k : α) (x : β) : (putG m k x).map (·.1) = if k ∈ m.map (·.1) then m.map (·.1) else m.map (·.1) ++ [k] := by
  unfold putG
  by_cases h : k ∈ m.map (·.1)
  · rw [if_pos (any_keyG.mpr h), if_pos h, List.map_map]
    apply List.map_congr_left
    intro p _
    show (if p.1 = k then (p.1, x) else p).1 = p.1
    split <;> rfl
  · rw [if_neg (fun z => h (any_keyG.mp z)), if_neg h, List.map_append]; rfl
theorem get_someG {m : List (α × β)} {k : α} : (getG m k).isSome = true ↔ k ∈ m.map (·.1) := by
  unfold getG
  rw [Option.isSome_map, List.find?_isSome, List.mem_map]
  constructor
  · rintro ⟨p, h, e⟩; exact ⟨p, h, by simpa using e⟩
  · rintro ⟨p, h, e⟩; exact ⟨p, h, by simpa using e⟩
theorem get_noneG {m : List (α × β)} {k : α} (h : k ∉ m.map (·.1)) : getG m k = none := by
  cases e : getG m k with
  | none => rfl
  | some x => exact absurd (get_someG.mp (by rw [e]; rfl)) h
theorem put_get_selfG (m : List (α × β)) (k : α) (x : β) : getG (putG m k x) k = some x := by
  unfold putG
  split
  · rename_i h
    induction m with
    | nil => simp at h
    | cons p m ih =>
      unfold getG
      rw [List.map_cons, List.find?_cons]
      by_cases hp : p.1 = k
      · simp [hp]
      · simp only [if_neg hp, decide_eq_false hp]
        have h' : (m.any fun p => decide (p.1 = k)) = true := by simpa [hp] using h
        exact ih h'
  · rename_i h
    unfold getG
    rw [List.find?_append]
    have : m.find? (fun p => decide (p.1 = k)) = none := by
      cases e : m.find? (fun p => decide (p.1 = k)) with
      | none => rfl
      | some p =>
        exfalso
        apply h
        rw [List.any_eq_true]
        exact ⟨p, List.mem_of_find?_eq_some e, List.find?_some (p := fun p : α × β => decide (p.1 = k)) e⟩
    rw [this]
    simp
theorem put_get_neG {m : List (α × β)} {k j : α} (x : β) (h : j ≠ k) : getG (putG m k x) j = getG m j := by
  unfold putG
  split
  · induction m with
    | nil => rfl
    | cons p m ih =>
      unfold getG at *
      rw [List.map_cons, List.find?_cons, List.find?_cons]
      by_cases hp : p.1 = k
      · have hj : p.1 ≠ j := fun z => h (by rw [← z, hp])
        simp only [if_pos hp, decide_eq_false hj]
        rename_i hh
        by_cases h3 : (m.any fun p => decide (p.1 = k)) = true
        · exact ih h3
        · have : m.map (fun p => if p.1 = k then (p.1, x) else p) = m := by
            conv => rhs; rw [← List.map_id m]
            apply List.map_congr_left
            intro q hq
            rw [if_neg]
            · rfl
            · intro z
              apply h3
              rw [List.any_eq_true]
              exact ⟨q, hq, by simpa using z⟩
          rw [this]
      · simp only [if_neg hp]
        by_cases hj : p.1 = j
        · simp [hj]
        · simp only [decide_eq_false hj]
          rename_i hh
          exact ih (by simpa [hp] using hh)
  · unfold getG
    rw [List.find?_append]
    cases m.find? (fun p => decide (p.1 = j)) with
    | some p => rfl
    | none => simp [Ne.symm h]

theorem get2_kvG (hf : ∀ a b, f a = f b → a = b) {t : Bool} (m : List (α × β)) (k : α) (x : β) (hk : D.keyOk t (f k) = true) : dGet2 (.dct t (kvG f g m)) (f k) (g x) = .ok (g ((getG m k).getD x)) := by
  unfold dGet2
  dsimp only
  rw [if_pos hk, find_kvG hf]
  cases getG m k <;> rfl
theorem at_kvG (hf : ∀ a b, f a = f b → a = b) {t : Bool} {m : List (α × β)} {k : α} {x : β} (hk : D.keyOk t (f k) = true) (h : getG m k = some x) : dAt (.dct t (kvG f g m)) (f k) = .ok (g x) := by
  unfold dAt
  dsimp only
  rw [if_pos hk, find_kvG hf, h]
  rfl
theorem kvG_len (m : List (α × β)) : (kvG f g m).length = m.length := by unfold kvG; rw [List.length_map]
theorem putG_len (m : List (α × β)) (k : α) (x : β) : (putG m k x).length ≤ m.length + 1 := by
  have e := congrArg List.length (put_keysG m k x)
  rw [List.length_map] at e
  rw [e]
  split
  · rw [List.length_map]; omega
  · rw [List.length_append, List.length_map]; exact Nat.le_refl _
end
/-- so many times each -/
def bumpG {α : Type} [DecidableEq α] (m : List (α × Nat)) (k : α) : List (α × Nat) := putG m k ((getG m k).getD 0 + 1)
def timesG {α : Type} [DecidableEq α] (k : α) (l : List α) : Nat := (l.filter fun x => decide (x = k)).length
structure CountsOf {α : Type} [DecidableEq α] (m : List (α × Nat)) (l : List α) : Prop where
  nd : (m.map (·.1)).Nodup
  ks : ∀ k, k ∈ m.map (·.1) ↔ k ∈ l
  gt : ∀ k, (getG m k).getD 0 = timesG k l
  sm : ∀ k, k ∈ l → getG m k = some (timesG k l)
  ln : m.length ≤ l.length
theorem CountsOf.nil {α : Type} [DecidableEq α] : CountsOf ([] : List (α × Nat)) [] := ⟨List.nodup_nil, fun k => Iff.rfl, fun k => rfl, fun k h => absurd h List.not_mem_nil, Nat.le_refl _⟩
theorem timesG_snoc {α : Type} [DecidableEq α] (k x : α) (l : List α) : timesG k (l ++ [x]) = timesG k l + if x = k then 1 else 0 := by
  unfold timesG
  rw [List.filter_append, List.length_append]
  by_cases h : x = k
  · simp [h]
  · simp [h]
theorem CountsOf.step {α : Type} [DecidableEq α] {m : List (α × Nat)} {l : List α} (S : CountsOf m l) (x : α) : CountsOf (bumpG m x) (l ++ [x]) := by
  have hk := put_keysG m x ((getG m x).getD 0 + 1)
  have g1 : ∀ k, getG (bumpG m x) k = if x = k then some (timesG k l + 1) else getG m k := fun k => by
    unfold bumpG
    by_cases e : x = k
    · subst e
      rw [put_get_selfG, if_pos rfl, S.gt]
    · rw [put_get_neG _ (Ne.symm e), if_neg e]
  refine ⟨?_, fun k => ?_, fun k => ?_, fun k h => ?_, ?_⟩
  · unfold bumpG
    rw [hk]
    split
    · exact S.nd
    · rename_i h
      rw [List.nodup_append]
      refine ⟨S.nd, by simp, ?_⟩
      intro a ha b hb
      rw [List.mem_singleton] at hb
      subst hb
      intro e
      subst e
      exact h ha
  · unfold bumpG
    rw [hk, List.mem_append, List.mem_singleton, ← S.ks k]
    split
    · rename_i h
      exact ⟨.inl, fun z => z.elim id fun e => e ▸ h⟩
    · rw [List.mem_append, List.mem_singleton]
  · rw [g1, timesG_snoc]
    split
    · rfl
    · rw [S.gt]; rfl
  · rw [g1, timesG_snoc]
    split
    · rfl
    · rename_i e
      rw [List.mem_append, List.mem_singleton] at h
      rw [S.sm k (h.resolve_right fun z => e z.symm)]
      rfl
  · have := putG_len m x ((getG m x).getD 0 + 1)
    have l' := S.ln
    rw [List.length_append]
    show (putG m x _).length ≤ l.length + 1
    omega
theorem timesG_pos {α : Type} [DecidableEq α] {k : α} {l : List α} : 0 < timesG k l ↔ k ∈ l := by
  unfold timesG
  rw [List.length_pos_iff_exists_mem]
  constructor
  · rintro ⟨a, h⟩
    rw [List.mem_filter] at h
    have e : a = k := by simpa using h.2
    exact e ▸ h.1
  · intro h
    exact ⟨k, List.mem_filter.mpr ⟨h, by simp⟩⟩
/-! ### sorted numbers -/
theorem int_inj (a b : Int) (h : D.int a = D.int b) : a = b := by injection h
theorem lt_int (a b : Int) : D.lt (.int a) (.int b) = decide (a < b) := by
  show PyProof.Rows.lexLt itemOrd [.inl a] [.inl b] = _
  rw [PyProof.Rows.lex_cons]
  show (decide (a < b) || (!decide (b < a) && false)) = _
  simp
theorem le_int (a b : Int) : D.le (.int a) (.int b) = decide (a ≤ b) := by
  unfold D.le
  rw [lt_int]
  by_cases h : a ≤ b
  · rw [decide_eq_true h, decide_eq_false (by omega)]; rfl
  · rw [decide_eq_false h, decide_eq_true (by omega)]; rfl
theorem sortOk_int {ks : List Int} (h : ks.length ≤ sizeLine) : SortOk (ks.map D.int) := by
  refine ⟨by rw [List.length_map]; exact h, ?_, ?_, .inr ?_⟩
  · intro x hx; obtain ⟨k, _, rfl⟩ := List.mem_map.mp hx; rfl
  · intro x hx y hy
    obtain ⟨k, _, rfl⟩ := List.mem_map.mp hx
    obtain ⟨j, _, rfl⟩ := List.mem_map.mp hy
    rfl
  · intro x hx
    obtain ⟨k, _, rfl⟩ := List.mem_map.mp hx
    exact ⟨by simp, by simp, by simp⟩
theorem sortD_int (ks : List Int) : sortD (ks.map D.int) = (ks.mergeSort fun a b => decide (a ≤ b)).map D.int := by
  unfold sortD
  rw [List.map_mergeSort]
  intro a _ b _
  exact (le_int a b).symm
theorem sort_id {ks : List Int} (h : ks.Pairwise (· ≤ ·)) : ks.mergeSort (fun a b => decide (a ≤ b)) = ks := List.mergeSort_of_pairwise (h.imp fun {a b} z => by simpa using z)
theorem sorted_ints {ks : List Int} (h : ks.length ≤ sizeLine) {d : D} (hd : d.items = some (ks.map D.int)) : dSorted d = .ok (.lst ((ks.mergeSort fun a b => decide (a ≤ b)).map D.int)) := by
  unfold dSorted
  rw [hd]
  dsimp only
  rw [if_pos (sortOk_int h), sortD_int]
end DL

/-! rows of numbers, plainly -/
namespace DL
open PySem PySem.Spec PyProof.Rows L2
open PySem.Builtin.Int (intBits)
theorem beq_ans (a b : List Int) : D.beq (ans a) (ans b) = decide (a = b) := by
  have gen : ∀ (a b : List Int), PyData.eqvAll (D.pys (a.map D.int)) (D.pys (b.map D.int)) = decide (a = b) := by
    intro a
    induction a with
    | nil => intro b; cases b <;> simp [D.pys, PyData.eqvAll]
    | cons x a ih =>
      intro b
      cases b with
      | nil => simp [D.pys, PyData.eqvAll]
      | cons y b =>
        simp only [List.map_cons, D.pys, D.py, PyData.eqvAll, ih b]
        show (PyData.eqv (.int x) (.int y) && decide (a = b)) = _
        have e : PyData.eqv (.int x) (.int y) = decide (x = y) := by
          simp [PyData.eqv]
          exact Bool.eq_iff_iff.mpr (by simp)
        rw [e]
        by_cases h1 : x = y <;> by_cases h2 : a = b <;> simp [h1, h2]
  show PyData.eqv (.tuple (D.pys (a.map D.int))) (.tuple (D.pys (b.map D.int))) = _
  rw [PyData.eqv]
  exact gen a b
theorem dEq_ans (a b : List Int) : dEq (ans a) (ans b) = .ok (.bl (decide (a = b))) := by
  show (if _ then _ else _) = _
  rw [if_pos ⟨ans_pl a 59, ans_pl b 59⟩, beq_ans]
theorem dNe_ans (a b : List Int) : dNe (ans a) (ans b) = .ok (.bl (!decide (a = b))) := by
  show (if _ then _ else _) = _
  rw [if_pos ⟨ans_pl a 59, ans_pl b 59⟩, beq_ans]
theorem dLt_ans (a b : List Int) : dLt (ans a) (ans b) = .ok (.bl (lexB a b)) := by
  show cmpD (fun x y => D.lt x y) (ans a) (ans b) = _
  unfold cmpD
  have c : D.cmpb (ans a) (ans b) = true := by
    unfold D.cmpb
    rw [ans_pl a 59, ans_pl b 59, ans_alike]
    rfl
  rw [if_pos c]
  show Res.ok (D.bl (D.lt (ans a) (ans b))) = _
  rw [lt_ans]
def rowsD (L : List (List Int)) : List D := L.map ans
theorem rows_pl (L : List (List Int)) (n : Nat) : D.pls (rowsD L) (n + 1) = true := pls_all fun d hd => by
  obtain ⟨k, _, rfl⟩ := List.mem_map.mp hd
  exact ans_pl k n
theorem has_rows (L : List (List Int)) (k : List Int) : D.has (rowsD L) (ans k) = decide (k ∈ L) := by
  unfold D.has rowsD
  rw [List.any_map]
  induction L with
  | nil => simp
  | cons r L ih =>
    rw [List.any_cons, ih]
    show (D.beq (ans r) (ans k) || _) = _
    rw [beq_ans]
    by_cases h : r = k
    · simp [h]
    · have h2 : ¬ k = r := fun z => h z.symm
      simp [h, h2]
theorem dInA_rows (no : Bool) (L : List (List Int)) (k : List Int) : dInA no (ans k) (.lst (rowsD L)) = .ok (.bl (decide (k ∈ L) != no)) := by
  show (if _ then _ else _) = _
  rw [if_pos ⟨ans_pl k 49, rows_pl L 49⟩, has_rows]
/-- without the first x -/
def rmv {α : Type} [DecidableEq α] (l : List α) (x : α) : List α := l.erase x
theorem rmv_head {α : Type} [DecidableEq α] (x : α) (l : List α) : rmv (x :: l) x = l := List.erase_cons_head ..
theorem rmv_tail {α : Type} [DecidableEq α] {x y : α} (l : List α) (h : y ≠ x) : rmv (y :: l) x = y :: rmv l x := List.erase_cons_tail (by simpa using h)
theorem remove_rows {L : List (List Int)} {k : List Int} (h : k ∈ L) : gRemove (rowsD L) [ans k] = some (rowsD (rmv L k)) := by
  show (if _ then _ else _) = _
  rw [if_pos ⟨ans_pl k 49, rows_pl L 49⟩]
  have gen : ∀ L : List (List Int), k ∈ L → ∃ j, (rowsD L).findIdx? (fun z => D.beq z (ans k)) = some j ∧ (rowsD L).eraseIdx j = rowsD (rmv L k) := by
    intro L
    induction L with
    | nil => intro h; cases h
    | cons r L ih =>
      intro h
      unfold rowsD at *
      rw [List.map_cons, List.findIdx?_cons, beq_ans]
      by_cases e : r = k
      · subst e
        refine ⟨0, by simp, ?_⟩
        rw [rmv_head]
        rfl
      · rw [List.mem_cons] at h
        obtain ⟨j, h1, h2⟩ := ih (h.resolve_left fun z => e z.symm)
        refine ⟨j + 1, by simp [e, h1], ?_⟩
        rw [List.eraseIdx_cons_succ, h2, rmv_tail _ e, List.map_cons]
  obtain ⟨j, h1, h2⟩ := gen L h
  rw [h1]
  dsimp only
  rw [h2]
theorem pickL_map {α β : Type} (f : α → β) (xs : List α) (lo hi st : Option Int) : pickL (xs.map f) lo hi st = (pickL xs lo hi st).map f := by
  unfold pickL
  rw [List.length_map]
  generalize sliceRange _ _ _ = l
  induction l with
  | nil => rfl
  | cons i l ih =>
    rw [List.filterMap_cons, List.filterMap_cons, List.getElem?_map]
    cases xs[i]? with
    | none => exact ih
    | some x => show f x :: _ = _; rw [ih]; rfl
theorem pickL_range {α : Type} (xs : List α) (lo hi st : Option Int) : (pickL xs lo hi st).length ≤ (sliceRange (sliceBounds lo hi st xs.length).1 (sliceBounds lo hi st xs.length).2.1 (sliceBounds lo hi st xs.length).2.2).length := by
  unfold pickL
  exact List.length_filterMap_le _ _
theorem pickL_mem {α : Type} {xs : List α} {lo hi st : Option Int} {x : α} (h : x ∈ pickL xs lo hi st) : x ∈ xs := by
  unfold pickL at h
  obtain ⟨i, _, hi⟩ := List.mem_filterMap.mp h
  exact List.mem_of_getElem? hi
/-! ### how many stand in the one and not in the other -/
section
variable {α : Type} [DecidableEq α]
def diffN : List α → List α → Nat
  | [], _ => 0
  | r :: S, T => if r ∈ T then diffN S (T.erase r) else 1 + diffN S T
theorem diffN_permR {T T' : List α} (p : T.Perm T') : ∀ S, diffN S T = diffN S T'
  | [] => rfl
  | r :: S => by
    rw [diffN, diffN]
    by_cases h : r ∈ T
    · rw [if_pos h, if_pos (p.mem_iff.mp h)]
      exact diffN_permR (p.erase r) S
    · rw [if_neg h, if_neg (fun z => h (p.mem_iff.mpr z)), diffN_permR p S]
  termination_by S => S.length
theorem diffN_nil : ∀ S : List α, diffN S [] = S.length
  | [] => rfl
  | r :: S => by rw [diffN, if_neg List.not_mem_nil, diffN_nil S, List.length_cons]; omega
theorem diffN_skip {r : α} : ∀ {S T : List α}, r ∉ S → diffN S (r :: T) = diffN S T
  | [], T, _ => rfl
  | s :: S, T, h => by
    rw [List.mem_cons] at h
    have hs : s ≠ r := fun z => h (.inl z.symm)
    have hr : r ∉ S := fun z => h (.inr z)
    rw [diffN, diffN]
    by_cases hm : s ∈ T
    · rw [if_pos (List.mem_cons_of_mem _ hm), if_pos hm, List.erase_cons_tail (by simpa using Ne.symm hs), diffN_skip hr]
    · rw [if_neg (by rw [List.mem_cons]; exact fun z => z.elim hs hm), if_neg hm, diffN_skip hr]
theorem diffN_sym : ∀ S T : List α, S.length + diffN T S = T.length + diffN S T
  | [], T => by rw [diffN_nil, diffN]; simp
  | r :: S, T => by
    rw [diffN]
    by_cases h : r ∈ T
    · have p := List.perm_cons_erase h
      have hl := p.length_eq
      rw [List.length_cons] at hl
      have e1 : diffN T (r :: S) = diffN (r :: T.erase r) (r :: S) := by
        have gen : ∀ {A B : List α}, A.Perm B → ∀ C, diffN A C = diffN B C := by
          intro A B p
          induction p with
          | nil => intro C; rfl
          | cons x _ ih =>
            intro C
            rw [diffN, diffN]
            split
            · exact ih _
            · rw [ih]
          | swap x y l =>
            intro C
            by_cases hxy : x = y
            · subst hxy; rfl
            · rw [diffN, diffN, diffN, diffN]
              have m1 : (x ∈ C.erase y) = (x ∈ C) := propext (List.mem_erase_of_ne hxy)
              have m2 : (y ∈ C.erase x) = (y ∈ C) := propext (List.mem_erase_of_ne (Ne.symm hxy))
              by_cases a : x ∈ C <;> by_cases b : y ∈ C <;> simp [a, b, m1, m2, diffN, List.erase_comm]
          | trans _ _ i1 i2 => intro C; rw [i1, i2]
        exact gen p _
      rw [if_pos h, e1, diffN, if_pos List.mem_cons_self, List.erase_cons_head, List.length_cons]
      have := diffN_sym S (T.erase r)
      omega
    · rw [if_neg h, diffN_skip h, List.length_cons]
      have := diffN_sym S T
      omega
theorem diffN_permL {S S' : List α} (p : S.Perm S') (T : List α) : diffN S T = diffN S' T := by
  have h1 := diffN_sym S T
  have h2 := diffN_sym S' T
  have h3 := diffN_permR p T
  have h4 := p.length_eq
  omega
theorem diffN_self : ∀ S : List α, diffN S S = 0
  | [] => rfl
  | r :: S => by rw [diffN, if_pos List.mem_cons_self, List.erase_cons_head, diffN_self S]
theorem diffN_erase {r : α} : ∀ (S C : List α), diffN S (C.erase r) ≤ 1 + diffN S C
  | [], _ => Nat.zero_le _
  | s :: S, C => by
    rw [diffN, diffN]
    by_cases h1 : s ∈ C.erase r
    · have h2 : s ∈ C := List.mem_of_mem_erase h1
      rw [if_pos h1, if_pos h2, List.erase_comm]
      exact diffN_erase S (C.erase s)
    · rw [if_neg h1]
      by_cases h2 : s ∈ C
      · rw [if_pos h2]
        have e : s = r := by
          by_cases e : s = r
          · exact e
          · exact absurd ((List.mem_erase_of_ne e).mpr h2) h1
        subst e
        exact Nat.le_refl _
      · rw [if_neg h2]
        have := diffN_erase (r := r) S C
        omega
theorem diffN_head (r : α) (S T : List α) : diffN (r :: S) (r :: T) = diffN S T := by rw [diffN, if_pos List.mem_cons_self, List.erase_cons_head]
theorem diffN_in {r : α} {S T : List α} (h : r ∈ T) : diffN (r :: S) T = diffN S (rmv T r) := by rw [diffN, if_pos h]; rfl
theorem diffN_out {r : α} {S T : List α} (h : r ∉ T) : diffN (r :: S) T = 1 + diffN S T := by rw [diffN, if_neg h]
theorem rmv_len {r : α} {T : List α} (h : r ∈ T) : T.length = (rmv T r).length + 1 := by
  have := (List.perm_cons_erase h).length_eq
  rw [List.length_cons] at this
  exact this
theorem diffN_tri : ∀ (A B C : List α), diffN A C ≤ diffN A B + diffN B C
  | [], _, _ => Nat.zero_le _
  | r :: A, B, C => by
    have up : diffN (r :: A) C ≤ 1 + diffN A C := by
      rw [diffN]
      split
      · exact diffN_erase A C
      · exact Nat.le_refl _
    by_cases hB : r ∈ B
    · have e1 : diffN (r :: A) B = diffN A (B.erase r) := by rw [diffN, if_pos hB]
      have e2 := diffN_permL (List.perm_cons_erase hB) C
      rw [e1, e2]
      by_cases hC : r ∈ C
      · rw [diffN, if_pos hC, diffN, if_pos hC]
        exact diffN_tri A (B.erase r) (C.erase r)
      · rw [diffN, if_neg hC, diffN, if_neg hC]
        have := diffN_tri A (B.erase r) C
        omega
    · have e1 : diffN (r :: A) B = 1 + diffN A B := by rw [diffN, if_neg hB]
      rw [e1]
      have := diffN_tri A B C
      omega
end
end DL

namespace DLaw
open DL PySem PySem.Spec PyProof.Rows L2
open PySem.Builtin.Int (intBits)
def top (i : Nat) : Stmt := PySem.Challenge.pw_blurdesk_k10_ops_on_numbers.main.body.getD i (.Pass ⟨0, 0, 0, 0⟩)
/-! what the top says of the built-ins and errors -/
structure Txt (K : PySem.W.Frag) (mg : Str → Option Value) : Prop where
  z_isinstance : mg "isinstance" = none
  z_int : mg "int" = none
  z_bool : mg "bool" = none
  z_len : mg "len" = none
  z_min : mg "min" = none
  z_max : mg "max" = none
  z_tuple : mg "tuple" = none
  z_abs : mg "abs" = none
  z_range : mg "range" = none
  c_MOST : ConOk K mg "MOST" (.int 1000000000000000000)
/-! _law_whole -/
abbrev s_l_whole : Stmt := top 12
noncomputable def b_l_whole : DL.Env → Out := (sSeq (sRet [] (eAnd (e1 isInt (eVarS 0)) (eAnd (eNot (e1 isBool (eVarS 0))) (eOp dEq (eVarS 0) (eVarS 1))))) sSkip)
noncomputable def F_l_whole : List D → Res D := runDef 2 2 b_l_whole
/-! _law_held -/
abbrev s_l_held : Stmt := top 10
noncomputable def b_l_held : DL.Env → Out := (sSeq (sIf [] (bTest dGt (eVarS 0) (eOp dPow (eC (.int 10)) (eC (.int 18)))) (sSeq (sRet [] (eOp dPow (eC (.int 10)) (eC (.int 18)))) sSkip) sSkip) (sSeq (sIf [] (bTest dLt (eVarS 0) (eNeg (eOp dPow (eC (.int 10)) (eC (.int 18))))) (sSeq (sRet [] (eNeg (eOp dPow (eC (.int 10)) (eC (.int 18))))) sSkip) sSkip) (sSeq (sRet [] (eVarS 0)) sSkip)))
noncomputable def F_l_held : List D → Res D := runDef 1 1 b_l_held
/-! _law_due -/
abbrev s_l_due : Stmt := top 11
noncomputable def b_l_due : DL.Env → Out := (sSeq (sIf [] (bTest dEq (eVarS 0) (eC (.str "not"))) (sSeq (sRet [] (e1 dInt (eOp dEq (eVarS 1) (eC (.int 0))))) sSkip) sSkip) (sSeq (sIf [] (bTest dEq (eVarS 0) (eC (.str "pick"))) (sSeq (sRet [] (eOp dIxA (eLst (aCons (eVarS 2) (aCons (eVarS 3) aNil))) (e1 dInt (eOp dEq (eVarS 1) (eC (.int 0)))))) sSkip) sSkip) (sSeq (sIf [] (bTest dEq (eVarS 0) (eC (.str "less"))) (sSeq (sRet [] (e1 dInt (eOp dLt (eOp dSub (eVarS 1) (eVarS 2)) (eC (.int 0))))) sSkip) sSkip) (sSeq (sIf [] (bTest dEq (eVarS 0) (eC (.str "same"))) (sSeq (sRet [] (e1 dInt (eOp dEq (eOp dSub (eVarS 1) (eVarS 2)) (eC (.int 0))))) sSkip) sSkip) (sSeq (sIf [] (bTest dEq (eVarS 0) (eC (.str "both"))) (sSeq (sRet [] (e1 dInt (eOp dNe (eOp dMul (eVarS 1) (eVarS 2)) (eC (.int 0))))) sSkip) sSkip) (sSeq (sIf [] (bTest dEq (eVarS 0) (eC (.str "any"))) (sSeq (sRet [] (e1 dInt (eOp dGt (eOp dAdd (eOp dMul (eVarS 1) (eVarS 1)) (eOp dMul (eVarS 2) (eVarS 2))) (eC (.int 0))))) sSkip) sSkip) (sSeq (sIf [] (bTest dEq (eVarS 0) (eC (.str "quo"))) (sSeq (sIf [] (bTest dEq (eVarS 2) (eC (.int 0))) (sSeq (sRet [] (eC (.int 0))) sSkip) sSkip) (sSeq (sRet [] (eCall F_l_held (aCons (eOp dDiv (eOp dSub (eVarS 1) (eOp dMod (eVarS 1) (eVarS 2))) (eVarS 2)) aNil))) sSkip)) sSkip) (sSeq (sRet [] (eCall F_l_held (aCons (eOp dIxA (eLst (aCons (eOp dAdd (eVarS 1) (eVarS 2)) (aCons (eOp dSub (eVarS 1) (eVarS 2)) (aCons (eOp dMul (eVarS 1) (eVarS 2)) aNil)))) (eMeth "list" dIndex (eLst (aCons (eC (.str "add")) (aCons (eC (.str "sub")) (aCons (eC (.str "mul")) aNil)))) (aCons (eVarS 0) aNil))) aNil))) sSkip))))))))
noncomputable def F_l_due : List D → Res D := runDef 4 4 b_l_due
/-! field_at -/
abbrev s_field_at : Stmt := top 6
noncomputable def b_field_at : DL.Env → Out := (sSeq (sIf [] (bTest dLt (eVarS 1) (e1 dLen (eVarS 0))) (sSeq (sRet [] (eOp dIxA (eVarS 0) (eVarS 1))) sSkip) sSkip) (sSeq (sRet [] (eC (.int 0))) sSkip))
noncomputable def F_field_at : List D → Res D := runDef 2 2 b_field_at
/-! held -/
abbrev s_held : Stmt := top 2
noncomputable def b_held : DL.Env → Out := (sSeq (sRet [] (eOp dMax (eNeg (eC (.int 1000000000000000000))) (eOp dMin (eC (.int 1000000000000000000)) (eVarS 0)))) sSkip)
noncomputable def F_held : List D → Res D := runDef 1 1 b_held
/-! worked -/
abbrev s_worked : Stmt := top 3
noncomputable def b_worked : DL.Env → Out := (sSeq (sIf [] (bTest dEq (eVarS 0) (eC (.str "add"))) (sSeq (sRet [] (eOp dAdd (eVarS 1) (eVarS 2))) sSkip) sSkip) (sSeq (sIf [] (bTest dEq (eVarS 0) (eC (.str "sub"))) (sSeq (sRet [] (eOp dSub (eVarS 1) (eVarS 2))) sSkip) sSkip) (sSeq (sIf [] (bTest dEq (eVarS 0) (eC (.str "mul"))) (sSeq (sRet [] (eOp dMul (eVarS 1) (eVarS 2))) sSkip) sSkip) (sSeq (sIf [] (bTest dEq (eVarS 2) (eC (.int 0))) (sSeq (sRet [] (eC (.int 0))) sSkip) sSkip) (sSeq (sRet [] (eOp dDiv (eVarS 1) (eVarS 2))) sSkip)))))
noncomputable def F_worked : List D → Res D := runDef 3 3 b_worked
/-! marked -/
abbrev s_marked : Stmt := top 4
noncomputable def b_marked : DL.Env → Out := (sSeq (sIf [] (bTest dEq (eVarS 0) (eC (.str "less"))) (sSeq (sRet [] (eOp dLt (eVarS 1) (eVarS 2))) sSkip) sSkip) (sSeq (sIf [] (bTest dEq (eVarS 0) (eC (.str "same"))) (sSeq (sRet [] (eOp dEq (eVarS 1) (eVarS 2))) sSkip) sSkip) (sSeq (sIf [] (bTest dEq (eVarS 0) (eC (.str "both"))) (sSeq (sRet [] (eAnd (eOp dNe (eVarS 1) (eC (.int 0))) (eOp dNe (eVarS 2) (eC (.int 0))))) sSkip) sSkip) (sSeq (sRet [] (eOr (eOp dNe (eVarS 1) (eC (.int 0))) (eOp dNe (eVarS 2) (eC (.int 0))))) sSkip))))
noncomputable def F_marked : List D → Res D := runDef 3 3 b_marked
/-! reckoned -/
abbrev s_reckoned : Stmt := top 5
noncomputable def b_reckoned : DL.Env → Out := (sSeq (sIf [] (bTest dEq (eVarS 0) (eC (.str "not"))) (sSeq (sRet [] (e1 dInt (eOp dEq (eOp dIx (eVarS 1) (eC (.int 0))) (eC (.int 0))))) sSkip) sSkip) (sSeq (sIf [] (bTest dEq (eVarS 0) (eC (.str "pick"))) (sSeq (sIf [] (bTest dNe (eOp dIx (eVarS 1) (eC (.int 0))) (eC (.int 0))) (sSeq (sRet [] (eOp dIx (eVarS 1) (eC (.int 1)))) sSkip) sSkip) (sSeq (sRet [] (eOp dIx (eVarS 1) (eC (.int 2)))) sSkip)) sSkip) (sSeq (sIf [] (bOr (bTest dEq (eVarS 0) (eC (.str "add"))) (bOr (bTest dEq (eVarS 0) (eC (.str "sub"))) (bOr (bTest dEq (eVarS 0) (eC (.str "mul"))) (bTest dEq (eVarS 0) (eC (.str "quo")))))) (sSeq (sRet [] (eCall F_held (aCons (eCall F_worked (aCons (eVarS 0) (aCons (eOp dIx (eVarS 1) (eC (.int 0))) (aCons (eOp dIx (eVarS 1) (eC (.int 1))) aNil)))) aNil))) sSkip) sSkip) (sSeq (sRet [] (e1 dInt (eCall F_marked (aCons (eVarS 0) (aCons (eOp dIx (eVarS 1) (eC (.int 0))) (aCons (eOp dIx (eVarS 1) (eC (.int 1))) aNil)))))) sSkip))))
noncomputable def F_reckoned : List D → Res D := runDef 2 2 b_reckoned
/-! worth -/
abbrev s_worth : Stmt := top 7
noncomputable def b_worth (G : List D → Res D) : DL.Env → Out := (sSeq (sIf [] (bTest dEq (eOp dIx (eVarS 0) (eC (.int 0))) (eC (.str "num"))) (sSeq (sRet [] (eOp dIx (eVarS 0) (eC (.int 1)))) sSkip) sSkip) (sSeq (sIf [] (bTest dEq (eOp dIx (eVarS 0) (eC (.int 0))) (eC (.str "field"))) (sSeq (sRet [] (eCall F_field_at (aCons (eVarS 1) (aCons (eOp dIx (eVarS 0) (eC (.int 1))) aNil)))) sSkip) sSkip) (sSeq (sIf [] (bTest dEq (eOp dIx (eVarS 0) (eC (.int 0))) (eC (.str "name"))) (sSeq (sRet [] (eGet2 (eVarS 2) (eOp dIx (eVarS 0) (eC (.int 1))) (eC (.int 0)))) sSkip) sSkip) (sSeq (sRet [] (eCall F_reckoned (aCons (eOp dIx (eVarS 0) (eC (.int 0))) (aCons (eComp [3] (.nm 3) (iSeq (eCut (eVarS 0) (oSome (eC (.int 1))) oNone)) bYes (eCall G (aCons (eVarS 3) (aCons (eVarS 1) (aCons (eVarS 2) aNil))))) aNil)))) sSkip))))
noncomputable def R_worth : Nat → List D → Res D
  | 0 => fun _ => .bad
  | j + 1 => runDef 3 4 (b_worth (R_worth j))
noncomputable def F_worth : List D → Res D := R_worth 12
/-! _law_fine -/
abbrev s_l_fine : Stmt := top 13
noncomputable def b_l_fine_2 : DL.Env → Out := (sSeq (sIf [] (bNot (bTruth (eCall F_l_whole (aCons (eCall F_worth (aCons (eOp dAdd (eTup (aCons (eVarS 5) aNil)) (e1 dTuple (eVarS 11))) (aCons (eVarS 3) (aCons (eVarS 4) aNil)))) (aCons (eVarS 7) aNil))))) (sSeq (sRet [] (eC (.bl false))) sSkip) sSkip) sSkip)
noncomputable def b_l_fine_1 : DL.Env → Out := (sSeq (sSet [] 6 (eOp dSub (eOp dAdd (eC (.int 2)) (e1 dInt (eOp dEq (eVarS 5) (eC (.str "pick"))))) (e1 dInt (eOp dEq (eVarS 5) (eC (.str "not")))))) (sSeq (sSet [] 7 (eCall F_l_due (aCons (eVarS 5) (aCons (eVarS 0) (aCons (eVarS 1) (aCons (eVarS 2) aNil)))))) (sSeq (sSet [] 8 (eCut (eLst (aCons (eTup (aCons (eC (.str "num")) (aCons (eVarS 0) aNil))) (aCons (eTup (aCons (eC (.str "num")) (aCons (eVarS 1) aNil))) (aCons (eTup (aCons (eC (.str "num")) (aCons (eVarS 2) aNil))) aNil)))) oNone (oSome (eVarS 6)))) (sSeq (sSet [] 9 (eCut (eLst (aCons (eTup (aCons (eC (.str "field")) (aCons (eC (.int 2)) aNil))) (aCons (eTup (aCons (eC (.str "field")) (aCons (eC (.int 1)) aNil))) (aCons (eTup (aCons (eC (.str "field")) (aCons (eC (.int 0)) aNil))) aNil)))) oNone (oSome (eVarS 6)))) (sSeq (sSet [] 10 (eCut (eLst (aCons (eTup (aCons (eC (.str "name")) (aCons (eC (.str "a")) aNil))) (aCons (eTup (aCons (eC (.str "name")) (aCons (eC (.str "bc")) aNil))) (aCons (eTup (aCons (eC (.str "name")) (aCons (eC (.str "abcdefgh")) aNil))) aNil)))) oNone (oSome (eVarS 6)))) (sSeq (sFor [] (.nm 11) (iSeq (eLst (aCons (eVarS 8) (aCons (eVarS 9) (aCons (eVarS 10) (aCons (eOp dAdd (eOp dAdd (eCut (eVarS 9) oNone (oSome (eC (.int 1)))) (eCut (eVarS 10) (oSome (eC (.int 1))) (oSome (eC (.int 2))))) (eCut (eVarS 8) (oSome (eC (.int 2))) oNone)) aNil)))))) b_l_fine_2) sSkip))))))
noncomputable def b_l_fine : DL.Env → Out := (sSeq (sSet [] 3 (eTup (aCons (eVarS 2) (aCons (eVarS 1) (aCons (eVarS 0) aNil))))) (sSeq (sSet [] 4 (eDisp [(.inr "a", (eVarS 0)), (.inr "bc", (eVarS 1)), (.inr "abcdefgh", (eVarS 2))])) (sSeq (sFor [] (.nm 5) (iSeq (eLst (aCons (eC (.str "add")) (aCons (eC (.str "sub")) (aCons (eC (.str "mul")) (aCons (eC (.str "quo")) (aCons (eC (.str "less")) (aCons (eC (.str "same")) (aCons (eC (.str "both")) (aCons (eC (.str "any")) (aCons (eC (.str "not")) (aCons (eC (.str "pick")) aNil)))))))))))) b_l_fine_1) (sSeq (sRet [] (eOp dEqD (eVarS 4) (eDisp [(.inr "a", (eVarS 0)), (.inr "bc", (eVarS 1)), (.inr "abcdefgh", (eVarS 2))]))) sSkip))))
noncomputable def F_l_fine : List D → Res D := runDef 3 12 b_l_fine
/-! _law_number -/
abbrev s_l_number : Stmt := top 9
noncomputable def b_l_number : DL.Env → Out := (sSeq (sSet [] 1 (eOp dMod (eVarS 0) (eC (.int 7)))) (sSeq (sIf [] (bTest dLt (eVarS 1) (eC (.int 2))) (sSeq (sRet [] (eOp dSub (eOp dMod (eOp dDiv (eVarS 0) (eC (.int 7))) (eC (.int 11))) (eC (.int 5)))) sSkip) sSkip) (sSeq (sIf [] (bTest dEq (eVarS 1) (eC (.int 2))) (sSeq (sRet [] (eOp dIxA (eLst (aCons (eOp dPow (eC (.int 10)) (eC (.int 18))) (aCons (eNeg (eOp dPow (eC (.int 10)) (eC (.int 18)))) (aCons (eOp dSub (eOp dPow (eC (.int 10)) (eC (.int 18))) (eC (.int 1))) (aCons (eOp dSub (eC (.int 1)) (eOp dPow (eC (.int 10)) (eC (.int 18)))) (aCons (eOp dPow (eC (.int 10)) (eC (.int 9))) (aCons (eNeg (eOp dPow (eC (.int 10)) (eC (.int 9)))) aNil))))))) (eOp dMod (eOp dDiv (eVarS 0) (eC (.int 7))) (eC (.int 6))))) sSkip) sSkip) (sSeq (sRet [] (eOp dSub (eOp dMod (eOp dDiv (eVarS 0) (eC (.int 7))) (eOp dAdd (eOp dMul (eC (.int 2)) (eOp dPow (eC (.int 10)) (eC (.int 18)))) (eC (.int 1)))) (eOp dPow (eC (.int 10)) (eC (.int 18))))) sSkip))))
noncomputable def F_l_number : List D → Res D := runDef 1 2 b_l_number
/-! _law_holds -/
abbrev s_l_holds : Stmt := top 14
noncomputable def b_l_holds : DL.Env → Out := (sSeq (sSet [] 1 (eVarS 0)) (sSeq (sIf [] (bOr (bTest dGt (eVarS 0) (eOp dPow (eC (.int 10)) (eC (.int 18)))) (bTest dLt (eVarS 0) (eNeg (eOp dPow (eC (.int 10)) (eC (.int 18)))))) (sSeq (sSet [] 1 (eOp dMul (eOp dDiv (eVarS 0) (e1 dAbs (eVarS 0))) (eOp dPow (eC (.int 10)) (eC (.int 18))))) sSkip) sSkip) (sSeq (sRet [] (eCall F_l_whole (aCons (eCall F_held (aCons (eVarS 0) aNil)) (aCons (eVarS 1) aNil)))) sSkip)))
noncomputable def F_l_holds : List D → Res D := runDef 1 2 b_l_holds
/-! law -/
abbrev s_law : Stmt := top 15
noncomputable def b_law_1 : DL.Env → Out := (sSeq (sSet [] 3 (eCall F_l_number (aCons (eOp dIxA (eVarS 1) (eVarS 2)) aNil))) (sSeq (sSet [] 4 (eCall F_l_number (aCons (eOp dIxA (eVarS 1) (eOp dAdd (eVarS 2) (eC (.int 1)))) aNil))) (sSeq (sIf [] (bNot (bTruth (eCall F_l_fine (aCons (eVarS 3) (aCons (eVarS 4) (aCons (eCall F_l_number (aCons (eOp dIxA (eVarS 1) (eOp dAdd (eVarS 2) (eC (.int 2)))) aNil)) aNil)))))) (sSeq (sRet [] (eC (.bl false))) sSkip) sSkip) (sSeq (sSet [] 5 (eOp dSub (eOp dMod (eOp dIxA (eVarS 1) (eVarS 2)) (eOp dAdd (eOp dMul (eC (.int 2)) (eOp dPow (eC (.int 10)) (eC (.int 60)))) (eC (.int 1)))) (eOp dPow (eC (.int 10)) (eC (.int 60))))) (sSeq (sIf [] (bOr (bNot (bTruth (eCall F_l_holds (aCons (eVarS 5) aNil)))) (bOr (bNot (bTruth (eCall F_l_holds (aCons (eOp dAdd (eVarS 3) (eVarS 4)) aNil)))) (bOr (bNot (bTruth (eCall F_l_holds (aCons (eOp dSub (eVarS 3) (eVarS 4)) aNil)))) (bNot (bTruth (eCall F_l_holds (aCons (eOp dMul (eVarS 3) (eVarS 4)) aNil))))))) (sSeq (sRet [] (eC (.bl false))) sSkip) sSkip) sSkip)))))
noncomputable def b_law : DL.Env → Out := (sSeq (sSet [] 1 (eOp dAdd (eVarS 0) (eLst (aCons (eC (.int 0)) (aCons (eC (.int 0)) aNil))))) (sSeq (sIf [] (bOr (bNot (bTruth (eCall F_l_whole (aCons (eC (.int 1000000000000000000)) (aCons (eOp dPow (eC (.int 10)) (eC (.int 18))) aNil))))) (bOr (bNot (bTruth (eCall F_l_fine (aCons (eC (.int 0)) (aCons (eC (.int 0)) (aCons (eC (.int 7)) aNil)))))) (bNot (bTruth (eCall F_l_fine (aCons (eC (.int 3)) (aCons (eNeg (eC (.int 3))) (aCons (eC (.int 0)) aNil)))))))) (sSeq (sRet [] (eC (.bl false))) sSkip) sSkip) (sSeq (sFor [] (.nm 2) (iRange1 (e1 dLen (eVarS 0))) b_law_1) (sSeq (sRet [] (eC (.bl true))) sSkip))))
noncomputable def F_law : List D → Res D := runDef 1 6 b_law
@[simp] theorem strok_0 : PyData.strOk "not" = true := by decide +kernel
@[simp] theorem strok_1 : PyData.strOk "pick" = true := by decide +kernel
@[simp] theorem strok_2 : PyData.strOk "less" = true := by decide +kernel
@[simp] theorem strok_3 : PyData.strOk "same" = true := by decide +kernel
@[simp] theorem strok_4 : PyData.strOk "both" = true := by decide +kernel
@[simp] theorem strok_5 : PyData.strOk "any" = true := by decide +kernel
@[simp] theorem strok_6 : PyData.strOk "quo" = true := by decide +kernel
@[simp] theorem strok_7 : PyData.strOk "add" = true := by decide +kernel
@[simp] theorem strok_8 : PyData.strOk "sub" = true := by decide +kernel
@[simp] theorem strok_9 : PyData.strOk "mul" = true := by decide +kernel
@[simp] theorem strok_10 : PyData.strOk "num" = true := by decide +kernel
@[simp] theorem strok_11 : PyData.strOk "field" = true := by decide +kernel
@[simp] theorem strok_12 : PyData.strOk "name" = true := by decide +kernel
@[simp] theorem strok_13 : PyData.strOk "a" = true := by decide +kernel
@[simp] theorem strok_14 : PyData.strOk "bc" = true := by decide +kernel
@[simp] theorem strok_15 : PyData.strOk "abcdefgh" = true := by decide +kernel
@[simp] theorem str_0_1 : (Str.ofString "not" = Str.ofString "pick") = False := eq_false (by decide +kernel)
@[simp] theorem str_0_2 : (Str.ofString "not" = Str.ofString "less") = False := eq_false (by decide +kernel)
@[simp] theorem str_0_3 : (Str.ofString "not" = Str.ofString "same") = False := eq_false (by decide +kernel)
@[simp] theorem str_0_4 : (Str.ofString "not" = Str.ofString "both") = False := eq_false (by decide +kernel)
@[simp] theorem str_0_5 : (Str.ofString "not" = Str.ofString "any") = False := eq_false (by decide +kernel)
@[simp] theorem str_0_6 : (Str.ofString "not" = Str.ofString "quo") = False := eq_false (by decide +kernel)
@[simp] theorem str_0_7 : (Str.ofString "not" = Str.ofString "add") = False := eq_false (by decide +kernel)
@[simp] theorem str_0_8 : (Str.ofString "not" = Str.ofString "sub") = False := eq_false (by decide +kernel)
@[simp] theorem str_0_9 : (Str.ofString "not" = Str.ofString "mul") = False := eq_false (by decide +kernel)
@[simp] theorem str_0_10 : (Str.ofString "not" = Str.ofString "num") = False := eq_false (by decide +kernel)
@[simp] theorem str_0_11 : (Str.ofString "not" = Str.ofString "field") = False := eq_false (by decide +kernel)
@[simp] theorem str_0_12 : (Str.ofString "not" = Str.ofString "name") = False := eq_false (by decide +kernel)
@[simp] theorem str_0_13 : (Str.ofString "not" = Str.ofString "a") = False := eq_false (by decide +kernel)
@[simp] theorem str_0_14 : (Str.ofString "not" = Str.ofString "bc") = False := eq_false (by decide +kernel)
@[simp] theorem str_0_15 : (Str.ofString "not" = Str.ofString "abcdefgh") = False := eq_false (by decide +kernel)
@[simp] theorem str_1_0 : (Str.ofString "pick" = Str.ofString "not") = False := eq_false (by decide +kernel)
@[simp] theorem str_1_2 : (Str.ofString "pick" = Str.ofString "less") = False := eq_false (by decide +kernel)
@[simp] theorem str_1_3 : (Str.ofString "pick" = Str.ofString "same") = False := eq_false (by decide +kernel)
@[simp] theorem str_1_4 : (Str.ofString "pick" = Str.ofString "both") = False := eq_false (by decide +kernel)
@[simp] theorem str_1_5 : (Str.ofString "pick" = Str.ofString "any") = False := eq_false (by decide +kernel)
@[simp] theorem str_1_6 : (Str.ofString "pick" = Str.ofString "quo") = False := eq_false (by decide +kernel)
@[simp] theorem str_1_7 : (Str.ofString "pick" = Str.ofString "add") = False := eq_false (by decide +kernel)
@[simp] theorem str_1_8 : (Str.ofString "pick" = Str.ofString "sub") = False := eq_false (by decide +kernel)
@[simp] theorem str_1_9 : (Str.ofString "pick" = Str.ofString "mul") = False := eq_false (by decide +kernel)
@[simp] theorem str_1_10 : (Str.ofString "pick" = Str.ofString "num") = False := eq_false (by decide +kernel)
@[simp] theorem str_1_11 : (Str.ofString "pick" = Str.ofString "field") = False := eq_false (by decide +kernel)
@[simp] theorem str_1_12 : (Str.ofString "pick" = Str.ofString "name") = False := eq_false (by decide +kernel)
@[simp] theorem str_1_13 : (Str.ofString "pick" = Str.ofString "a") = False := eq_false (by decide +kernel)
@[simp] theorem str_1_14 : (Str.ofString "pick" = Str.ofString "bc") = False := eq_false (by decide +kernel)
@[simp] theorem str_1_15 : (Str.ofString "pick" = Str.ofString "abcdefgh") = False := eq_false (by decide +kernel)
@[simp] theorem str_2_0 : (Str.ofString "less" = Str.ofString "not") = False := eq_false (by decide +kernel)
@[simp] theorem str_2_1 : (Str.ofString "less" = Str.ofString "pick") = False := eq_false (by decide +kernel)
@[simp] theorem str_2_3 : (Str.ofString "less" = Str.ofString "same") = False := eq_false (by decide +kernel)
@[simp] theorem str_2_4 : (Str.ofString "less" = Str.ofString "both") = False := eq_false (by decide +kernel)
@[simp] theorem str_2_5 : (Str.ofString "less" = Str.ofString "any") = False := eq_false (by decide +kernel)
@[simp] theorem str_2_6 : (Str.ofString "less" = Str.ofString "quo") = False := eq_false (by decide +kernel)
@[simp] theorem str_2_7 : (Str.ofString "less" = Str.ofString "add") = False := eq_false (by decide +kernel)
@[simp] theorem str_2_8 : (Str.ofString "less" = Str.ofString "sub") = False := eq_false (by decide +kernel)
@[simp] theorem str_2_9 : (Str.ofString "less" = Str.ofString "mul") = False := eq_false (by decide +kernel)
@[simp] theorem str_2_10 : (Str.ofString "less" = Str.ofString "num") = False := eq_false (by decide +kernel)
@[simp] theorem str_2_11 : (Str.ofString "less" = Str.ofString "field") = False := eq_false (by decide +kernel)
@[simp] theorem str_2_12 : (Str.ofString "less" = Str.ofString "name") = False := eq_false (by decide +kernel)
@[simp] theorem str_2_13 : (Str.ofString "less" = Str.ofString "a") = False := eq_false (by decide +kernel)
@[simp] theorem str_2_14 : (Str.ofString "less" = Str.ofString "bc") = False := eq_false (by decide +kernel)
@[simp] theorem str_2_15 : (Str.ofString "less" = Str.ofString "abcdefgh") = False := eq_false (by decide +kernel)
@[simp] theorem str_3_0 : (Str.ofString "same" = Str.ofString "not") = False := eq_false (by decide +kernel)
@[simp] theorem str_3_1 : (Str.ofString "same" = Str.ofString "pick") = False := eq_false (by decide +kernel)
@[simp] theorem str_3_2 : (Str.ofString "same" = Str.ofString "less") = False := eq_false (by decide +kernel)
@[simp] theorem str_3_4 : (Str.ofString "same" = Str.ofString "both") = False := eq_false (by decide +kernel)
@[simp] theorem str_3_5 : (Str.ofString "same" = Str.ofString "any") = False := eq_false (by decide +kernel)
@[simp] theorem str_3_6 : (Str.ofString "same" = Str.ofString "quo") = False := eq_false (by decide +kernel)
@[simp] theorem str_3_7 : (Str.ofString "same" = Str.ofString "add") = False := eq_false (by decide +kernel)
@[simp] theorem str_3_8 : (Str.ofString "same" = Str.ofString "sub") = False := eq_false (by decide +kernel)
@[simp] theorem str_3_9 : (Str.ofString "same" = Str.ofString "mul") = False := eq_false (by decide +kernel)
@[simp] theorem str_3_10 : (Str.ofString "same" = Str.ofString "num") = False := eq_false (by decide +kernel)
@[simp] theorem str_3_11 : (Str.ofString "same" = Str.ofString "field") = False := eq_false (by decide +kernel)
@[simp] theorem str_3_12 : (Str.ofString "same" = Str.ofString "name") = False := eq_false (by decide +kernel)
@[simp] theorem str_3_13 : (Str.ofString "same" = Str.ofString "a") = False := eq_false (by decide +kernel)
@[simp] theorem str_3_14 : (Str.ofString "same" = Str.ofString "bc") = False := eq_false (by decide +kernel)
@[simp] theorem str_3_15 : (Str.ofString "same" = Str.ofString "abcdefgh") = False := eq_false (by decide +kernel)
@[simp] theorem str_4_0 : (Str.ofString "both" = Str.ofString "not") = False := eq_false (by decide +kernel)
@[simp] theorem str_4_1 : (Str.ofString "both" = Str.ofString "pick") = False := eq_false (by decide +kernel)
@[simp] theorem str_4_2 : (Str.ofString "both" = Str.ofString "less") = False := eq_false (by decide +kernel)
@[simp] theorem str_4_3 : (Str.ofString "both" = Str.ofString "same") = False := eq_false (by decide +kernel)
@[simp] theorem str_4_5 : (Str.ofString "both" = Str.ofString "any") = False := eq_false (by decide +kernel)
@[simp] theorem str_4_6 : (Str.ofString "both" = Str.ofString "quo") = False := eq_false (by decide +kernel)
@[simp] theorem str_4_7 : (Str.ofString "both" = Str.ofString "add") = False := eq_false (by decide +kernel)
@[simp] theorem str_4_8 : (Str.ofString "both" = Str.ofString "sub") = False := eq_false (by decide +kernel)
@[simp] theorem str_4_9 : (Str.ofString "both" = Str.ofString "mul") = False := eq_false (by decide +kernel)
@[simp] theorem str_4_10 : (Str.ofString "both" = Str.ofString "num") = False := eq_false (by decide +kernel)
@[simp] theorem str_4_11 : (Str.ofString "both" = Str.ofString "field") = False := eq_false (by decide +kernel)
@[simp] theorem str_4_12 : (Str.ofString "both" = Str.ofString "name") = False := eq_false (by decide +kernel)
@[simp] theorem str_4_13 : (Str.ofString "both" = Str.ofString "a") = False := eq_false (by decide +kernel)
@[simp] theorem str_4_14 : (Str.ofString "both" = Str.ofString "bc") = False := eq_false (by decide +kernel)
@[simp] theorem str_4_15 : (Str.ofString "both" = Str.ofString "abcdefgh") = False := eq_false (by decide +kernel)
@[simp] theorem str_5_0 : (Str.ofString "any" = Str.ofString "not") = False := eq_false (by decide +kernel)
@[simp] theorem str_5_1 : (Str.ofString "any" = Str.ofString "pick") = False := eq_false (by decide +kernel)
@[simp] theorem str_5_2 : (Str.ofString "any" = Str.ofString "less") = False := eq_false (by decide +kernel)
@[simp] theorem str_5_3 : (Str.ofString "any" = Str.ofString "same") = False := eq_false (by decide +kernel)
@[simp] theorem str_5_4 : (Str.ofString "any" = Str.ofString "both") = False := eq_false (by decide +kernel)
@[simp] theorem str_5_6 : (Str.ofString "any" = Str.ofString "quo") = False := eq_false (by decide +kernel)
@[simp] theorem str_5_7 : (Str.ofString "any" = Str.ofString "add") = False := eq_false (by decide +kernel)
@[simp] theorem str_5_8 : (Str.ofString "any" = Str.ofString "sub") = False := eq_false (by decide +kernel)
@[simp] theorem str_5_9 : (Str.ofString "any" = Str.ofString "mul") = False := eq_false (by decide +kernel)
@[simp] theorem str_5_10 : (Str.ofString "any" = Str.ofString "num") = False := eq_false (by decide +kernel)
@[simp] theorem str_5_11 : (Str.ofString "any" = Str.ofString "field") = False := eq_false (by decide +kernel)
@[simp] theorem str_5_12 : (Str.ofString "any" = Str.ofString "name") = False := eq_false (by decide +kernel)
@[simp] theorem str_5_13 : (Str.ofString "any" = Str.ofString "a") = False := eq_false (by decide +kernel)
@[simp] theorem str_5_14 : (Str.ofString "any" = Str.ofString "bc") = False := eq_false (by decide +kernel)
@[simp] theorem str_5_15 : (Str.ofString "any" = Str.ofString "abcdefgh") = False := eq_false (by decide +kernel)
@[simp] theorem str_6_0 : (Str.ofString "quo" = Str.ofString "not") = False := eq_false (by decide +kernel)
@[simp] theorem str_6_1 : (Str.ofString "quo" = Str.ofString "pick") = False := eq_false (by decide +kernel)
@[simp] theorem str_6_2 : (Str.ofString "quo" = Str.ofString "less") = False := eq_false (by decide +kernel)
@[simp] theorem str_6_3 : (Str.ofString "quo" = Str.ofString "same") = False := eq_false (by decide +kernel)
@[simp] theorem str_6_4 : (Str.ofString "quo" = Str.ofString "both") = False := eq_false (by decide +kernel)
@[simp] theorem str_6_5 : (Str.ofString "quo" = Str.ofString "any") = False := eq_false (by decide +kernel)
@[simp] theorem str_6_7 : (Str.ofString "quo" = Str.ofString "add") = False := eq_false (by decide +kernel)
@[simp] theorem str_6_8 : (Str.ofString "quo" = Str.ofString "sub") = False := eq_false (by decide +kernel)
@[simp] theorem str_6_9 : (Str.ofString "quo" = Str.ofString "mul") = False := eq_false (by decide +kernel)
@[simp] theorem str_6_10 : (Str.ofString "quo" = Str.ofString "num") = False := eq_false (by decide +kernel)
@[simp] theorem str_6_11 : (Str.ofString "quo" = Str.ofString "field") = False := eq_false (by decide +kernel)
@[simp] theorem str_6_12 : (Str.ofString "quo" = Str.ofString "name") = False := eq_false (by decide +kernel)
@[simp] theorem str_6_13 : (Str.ofString "quo" = Str.ofString "a") = False := eq_false (by decide +kernel)
@[simp] theorem str_6_14 : (Str.ofString "quo" = Str.ofString "bc") = False := eq_false (by decide +kernel)
@[simp] theorem str_6_15 : (Str.ofString "quo" = Str.ofString "abcdefgh") = False := eq_false (by decide +kernel)
@[simp] theorem str_7_0 : (Str.ofString "add" = Str.ofString "not") = False := eq_false (by decide +kernel)
@[simp] theorem str_7_1 : (Str.ofString "add" = Str.ofString "pick") = False := eq_false (by decide +kernel)
@[simp] theorem str_7_2 : (Str.ofString "add" = Str.ofString "less") = False := eq_false (by decide +kernel)
@[simp] theorem str_7_3 : (Str.ofString "add" = Str.ofString "same") = False := eq_false (by decide +kernel)
@[simp] theorem str_7_4 : (Str.ofString "add" = Str.ofString "both") = False := eq_false (by decide +kernel)
@[simp] theorem str_7_5 : (Str.ofString "add" = Str.ofString "any") = False := eq_false (by decide +kernel)
@[simp] theorem str_7_6 : (Str.ofString "add" = Str.ofString "quo") = False := eq_false (by decide +kernel)
@[simp] theorem str_7_8 : (Str.ofString "add" = Str.ofString "sub") = False := eq_false (by decide +kernel)
@[simp] theorem str_7_9 : (Str.ofString "add" = Str.ofString "mul") = False := eq_false (by decide +kernel)
@[simp] theorem str_7_10 : (Str.ofString "add" = Str.ofString "num") = False := eq_false (by decide +kernel)
@[simp] theorem str_7_11 : (Str.ofString "add" = Str.ofString "field") = False := eq_false (by decide +kernel)
@[simp] theorem str_7_12 : (Str.ofString "add" = Str.ofString "name") = False := eq_false (by decide +kernel)
@[simp] theorem str_7_13 : (Str.ofString "add" = Str.ofString "a") = False := eq_false (by decide +kernel)
@[simp] theorem str_7_14 : (Str.ofString "add" = Str.ofString "bc") = False := eq_false (by decide +kernel)
@[simp] theorem str_7_15 : (Str.ofString "add" = Str.ofString "abcdefgh") = False := eq_false (by decide +kernel)
@[simp] theorem str_8_0 : (Str.ofString "sub" = Str.ofString "not") = False := eq_false (by decide +kernel)
@[simp] theorem str_8_1 : (Str.ofString "sub" = Str.ofString "pick") = False := eq_false (by decide +kernel)
@[simp] theorem str_8_2 : (Str.ofString "sub" = Str.ofString "less") = False := eq_false (by decide +kernel)
@[simp] theorem str_8_3 : (Str.ofString "sub" = Str.ofString "same") = False := eq_false (by decide +kernel)
@[simp] theorem str_8_4 : (Str.ofString "sub" = Str.ofString "both") = False := eq_false (by decide +kernel)
@[simp] theorem str_8_5 : (Str.ofString "sub" = Str.ofString "any") = False := eq_false (by decide +kernel)
@[simp] theorem str_8_6 : (Str.ofString "sub" = Str.ofString "quo") = False := eq_false (by decide +kernel)
@[simp] theorem str_8_7 : (Str.ofString "sub" = Str.ofString "add") = False := eq_false (by decide +kernel)
@[simp] theorem str_8_9 : (Str.ofString "sub" = Str.ofString "mul") = False := eq_false (by decide +kernel)
@[simp] theorem str_8_10 : (Str.ofString "sub" = Str.ofString "num") = False := eq_false (by decide +kernel)
@[simp] theorem str_8_11 : (Str.ofString "sub" = Str.ofString "field") = False := eq_false (by decide +kernel)
@[simp] theorem str_8_12 : (Str.ofString "sub" = Str.ofString "name") = False := eq_false (by decide +kernel)
@[simp] theorem str_8_13 : (Str.ofString "sub" = Str.ofString "a") = False := eq_false (by decide +kernel)
@[simp] theorem str_8_14 : (Str.ofString "sub" = Str.ofString "bc") = False := eq_false (by decide +kernel)
@[simp] theorem str_8_15 : (Str.ofString "sub" = Str.ofString "abcdefgh") = False := eq_false (by decide +kernel)
@[simp] theorem str_9_0 : (Str.ofString "mul" = Str.ofString "not") = False := eq_false (by decide +kernel)
@[simp] theorem str_9_1 : (Str.ofString "mul" = Str.ofString "pick") = False := eq_false (by decide +kernel)
@[simp] theorem str_9_2 : (Str.ofString "mul" = Str.ofString "less") = False := eq_false (by decide +kernel)
@[simp] theorem str_9_3 : (Str.ofString "mul" = Str.ofString "same") = False := eq_false (by decide +kernel)
@[simp] theorem str_9_4 : (Str.ofString "mul" = Str.ofString "both") = False := eq_false (by decide +kernel)
@[simp] theorem str_9_5 : (Str.ofString "mul" = Str.ofString "any") = False := eq_false (by decide +kernel)
@[simp] theorem str_9_6 : (Str.ofString "mul" = Str.ofString "quo") = False := eq_false (by decide +kernel)
@[simp] theorem str_9_7 : (Str.ofString "mul" = Str.ofString "add") = False := eq_false (by decide +kernel)
@[simp] theorem str_9_8 : (Str.ofString "mul" = Str.ofString "sub") = False := eq_false (by decide +kernel)
@[simp] theorem str_9_10 : (Str.ofString "mul" = Str.ofString "num") = False := eq_false (by decide +kernel)
@[simp] theorem str_9_11 : (Str.ofString "mul" = Str.ofString "field") = False := eq_false (by decide +kernel)
@[simp] theorem str_9_12 : (Str.ofString "mul" = Str.ofString "name") = False := eq_false (by decide +kernel)
@[simp] theorem str_9_13 : (Str.ofString "mul" = Str.ofString "a") = False := eq_false (by decide +kernel)
@[simp] theorem str_9_14 : (Str.ofString "mul" = Str.ofString "bc") = False := eq_false (by decide +kernel)
@[simp] theorem str_9_15 : (Str.ofString "mul" = Str.ofString "abcdefgh") = False := eq_false (by decide +kernel)
@[simp] theorem str_10_0 : (Str.ofString "num" = Str.ofString "not") = False := eq_false (by decide +kernel)
@[simp] theorem str_10_1 : (Str.ofString "num" = Str.ofString "pick") = False := eq_false (by decide +kernel)
@[simp] theorem str_10_2 : (Str.ofString "num" = Str.ofString "less") = False := eq_false (by decide +kernel)
@[simp] theorem str_10_3 : (Str.ofString "num" = Str.ofString "same") = False := eq_false (by decide +kernel)
@[simp] theorem str_10_4 : (Str.ofString "num" = Str.ofString "both") = False := eq_false (by decide +kernel)
@[simp] theorem str_10_5 : (Str.ofString "num" = Str.ofString "any") = False := eq_false (by decide +kernel)
@[simp] theorem str_10_6 : (Str.ofString "num" = Str.ofString "quo") = False := eq_false (by decide +kernel)
@[simp] theorem str_10_7 : (Str.ofString "num" = Str.ofString "add") = False := eq_false (by decide +kernel)
@[simp] theorem str_10_8 : (Str.ofString "num" = Str.ofString "sub") = False := eq_false (by decide +kernel)
@[simp] theorem str_10_9 : (Str.ofString "num" = Str.ofString "mul") = False := eq_false (by decide +kernel)
@[simp] theorem str_10_11 : (Str.ofString "num" = Str.ofString "field") = False := eq_false (by decide +kernel)
@[simp] theorem str_10_12 : (Str.ofString "num" = Str.ofString "name") = False := eq_false (by decide +kernel)
@[simp] theorem str_10_13 : (Str.ofString "num" = Str.ofString "a") = False := eq_false (by decide +kernel)
@[simp] theorem str_10_14 : (Str.ofString "num" = Str.ofString "bc") = False := eq_false (by decide +kernel)
@[simp] theorem str_10_15 : (Str.ofString "num" = Str.ofString "abcdefgh") = False := eq_false (by decide +kernel)
@[simp] theorem str_11_0 : (Str.ofString "field" = Str.ofString "not") = False := eq_false (by decide +kernel)
@[simp] theorem str_11_1 : (Str.ofString "field" = Str.ofString "pick") = False := eq_false (by decide +kernel)
@[simp] theorem str_11_2 : (Str.ofString "field" = Str.ofString "less") = False := eq_false (by decide +kernel)
@[simp] theorem str_11_3 : (Str.ofString "field" = Str.ofString "same") = False := eq_false (by decide +kernel)
@[simp] theorem str_11_4 : (Str.ofString "field" = Str.ofString "both") = False := eq_false (by decide +kernel)
@[simp] theorem str_11_5 : (Str.ofString "field" = Str.ofString "any") = False := eq_false (by decide +kernel)
@[simp] theorem str_11_6 : (Str.ofString "field" = Str.ofString "quo") = False := eq_false (by decide +kernel)
@[simp] theorem str_11_7 : (Str.ofString "field" = Str.ofString "add") = False := eq_false (by decide +kernel)
@[simp] theorem str_11_8 : (Str.ofString "field" = Str.ofString "sub") = False := eq_false (by decide +kernel)
@[simp] theorem str_11_9 : (Str.ofString "field" = Str.ofString "mul") = False := eq_false (by decide +kernel)
@[simp] theorem str_11_10 : (Str.ofString "field" = Str.ofString "num") = False := eq_false (by decide +kernel)
@[simp] theorem str_11_12 : (Str.ofString "field" = Str.ofString "name") = False := eq_false (by decide +kernel)
@[simp] theorem str_11_13 : (Str.ofString "field" = Str.ofString "a") = False := eq_false (by decide +kernel)
@[simp] theorem str_11_14 : (Str.ofString "field" = Str.ofString "bc") = False := eq_false (by decide +kernel)
@[simp] theorem str_11_15 : (Str.ofString "field" = Str.ofString "abcdefgh") = False := eq_false (by decide +kernel)
@[simp] theorem str_12_0 : (Str.ofString "name" = Str.ofString "not") = False := eq_false (by decide +kernel)
@[simp] theorem str_12_1 : (Str.ofString "name" = Str.ofString "pick") = False := eq_false (by decide +kernel)
@[simp] theorem str_12_2 : (Str.ofString "name" = Str.ofString "less") = False := eq_false (by decide +kernel)
@[simp] theorem str_12_3 : (Str.ofString "name" = Str.ofString "same") = False := eq_false (by decide +kernel)
@[simp] theorem str_12_4 : (Str.ofString "name" = Str.ofString "both") = False := eq_false (by decide +kernel)
@[simp] theorem str_12_5 : (Str.ofString "name" = Str.ofString "any") = False := eq_false (by decide +kernel)
@[simp] theorem str_12_6 : (Str.ofString "name" = Str.ofString "quo") = False := eq_false (by decide +kernel)
@[simp] theorem str_12_7 : (Str.ofString "name" = Str.ofString "add") = False := eq_false (by decide +kernel)
@[simp] theorem str_12_8 : (Str.ofString "name" = Str.ofString "sub") = False := eq_false (by decide +kernel)
@[simp] theorem str_12_9 : (Str.ofString "name" = Str.ofString "mul") = False := eq_false (by decide +kernel)
@[simp] theorem str_12_10 : (Str.ofString "name" = Str.ofString "num") = False := eq_false (by decide +kernel)
@[simp] theorem str_12_11 : (Str.ofString "name" = Str.ofString "field") = False := eq_false (by decide +kernel)
@[simp] theorem str_12_13 : (Str.ofString "name" = Str.ofString "a") = False := eq_false (by decide +kernel)
@[simp] theorem str_12_14 : (Str.ofString "name" = Str.ofString "bc") = False := eq_false (by decide +kernel)
@[simp] theorem str_12_15 : (Str.ofString "name" = Str.ofString "abcdefgh") = False := eq_false (by decide +kernel)
@[simp] theorem str_13_0 : (Str.ofString "a" = Str.ofString "not") = False := eq_false (by decide +kernel)
@[simp] theorem str_13_1 : (Str.ofString "a" = Str.ofString "pick") = False := eq_false (by decide +kernel)
@[simp] theorem str_13_2 : (Str.ofString "a" = Str.ofString "less") = False := eq_false (by decide +kernel)
@[simp] theorem str_13_3 : (Str.ofString "a" = Str.ofString "same") = False := eq_false (by decide +kernel)
@[simp] theorem str_13_4 : (Str.ofString "a" = Str.ofString "both") = False := eq_false (by decide +kernel)
@[simp] theorem str_13_5 : (Str.ofString "a" = Str.ofString "any") = False := eq_false (by decide +kernel)
@[simp] theorem str_13_6 : (Str.ofString "a" = Str.ofString "quo") = False := eq_false (by decide +kernel)
@[simp] theorem str_13_7 : (Str.ofString "a" = Str.ofString "add") = False := eq_false (by decide +kernel)
@[simp] theorem str_13_8 : (Str.ofString "a" = Str.ofString "sub") = False := eq_false (by decide +kernel)
@[simp] theorem str_13_9 : (Str.ofString "a" = Str.ofString "mul") = False := eq_false (by decide +kernel)
@[simp] theorem str_13_10 : (Str.ofString "a" = Str.ofString "num") = False := eq_false (by decide +kernel)
@[simp] theorem str_13_11 : (Str.ofString "a" = Str.ofString "field") = False := eq_false (by decide +kernel)
@[simp] theorem str_13_12 : (Str.ofString "a" = Str.ofString "name") = False := eq_false (by decide +kernel)
@[simp] theorem str_13_14 : (Str.ofString "a" = Str.ofString "bc") = False := eq_false (by decide +kernel)
@[simp] theorem str_13_15 : (Str.ofString "a" = Str.ofString "abcdefgh") = False := eq_false (by decide +kernel)
@[simp] theorem str_14_0 : (Str.ofString "bc" = Str.ofString "not") = False := eq_false (by decide +kernel)
@[simp] theorem str_14_1 : (Str.ofString "bc" = Str.ofString "pick") = False := eq_false (by decide +kernel)
@[simp] theorem str_14_2 : (Str.ofString "bc" = Str.ofString "less") = False := eq_false (by decide +kernel)
@[simp] theorem str_14_3 : (Str.ofString "bc" = Str.ofString "same") = False := eq_false (by decide +kernel)
@[simp] theorem str_14_4 : (Str.ofString "bc" = Str.ofString "both") = False := eq_false (by decide +kernel)
@[simp] theorem str_14_5 : (Str.ofString "bc" = Str.ofString "any") = False := eq_false (by decide +kernel)
@[simp] theorem str_14_6 : (Str.ofString "bc" = Str.ofString "quo") = False := eq_false (by decide +kernel)
@[simp] theorem str_14_7 : (Str.ofString "bc" = Str.ofString "add") = False := eq_false (by decide +kernel)
@[simp] theorem str_14_8 : (Str.ofString "bc" = Str.ofString "sub") = False := eq_false (by decide +kernel)
@[simp] theorem str_14_9 : (Str.ofString "bc" = Str.ofString "mul") = False := eq_false (by decide +kernel)
@[simp] theorem str_14_10 : (Str.ofString "bc" = Str.ofString "num") = False := eq_false (by decide +kernel)
@[simp] theorem str_14_11 : (Str.ofString "bc" = Str.ofString "field") = False := eq_false (by decide +kernel)
@[simp] theorem str_14_12 : (Str.ofString "bc" = Str.ofString "name") = False := eq_false (by decide +kernel)
@[simp] theorem str_14_13 : (Str.ofString "bc" = Str.ofString "a") = False := eq_false (by decide +kernel)
@[simp] theorem str_14_15 : (Str.ofString "bc" = Str.ofString "abcdefgh") = False := eq_false (by decide +kernel)
@[simp] theorem str_15_0 : (Str.ofString "abcdefgh" = Str.ofString "not") = False := eq_false (by decide +kernel)
@[simp] theorem str_15_1 : (Str.ofString "abcdefgh" = Str.ofString "pick") = False := eq_false (by decide +kernel)
@[simp] theorem str_15_2 : (Str.ofString "abcdefgh" = Str.ofString "less") = False := eq_false (by decide +kernel)
@[simp] theorem str_15_3 : (Str.ofString "abcdefgh" = Str.ofString "same") = False := eq_false (by decide +kernel)
@[simp] theorem str_15_4 : (Str.ofString "abcdefgh" = Str.ofString "both") = False := eq_false (by decide +kernel)
@[simp] theorem str_15_5 : (Str.ofString "abcdefgh" = Str.ofString "any") = False := eq_false (by decide +kernel)
@[simp] theorem str_15_6 : (Str.ofString "abcdefgh" = Str.ofString "quo") = False := eq_false (by decide +kernel)
@[simp] theorem str_15_7 : (Str.ofString "abcdefgh" = Str.ofString "add") = False := eq_false (by decide +kernel)
@[simp] theorem str_15_8 : (Str.ofString "abcdefgh" = Str.ofString "sub") = False := eq_false (by decide +kernel)
@[simp] theorem str_15_9 : (Str.ofString "abcdefgh" = Str.ofString "mul") = False := eq_false (by decide +kernel)
@[simp] theorem str_15_10 : (Str.ofString "abcdefgh" = Str.ofString "num") = False := eq_false (by decide +kernel)
@[simp] theorem str_15_11 : (Str.ofString "abcdefgh" = Str.ofString "field") = False := eq_false (by decide +kernel)
@[simp] theorem str_15_12 : (Str.ofString "abcdefgh" = Str.ofString "name") = False := eq_false (by decide +kernel)
@[simp] theorem str_15_13 : (Str.ofString "abcdefgh" = Str.ofString "a") = False := eq_false (by decide +kernel)
@[simp] theorem str_15_14 : (Str.ofString "abcdefgh" = Str.ofString "bc") = False := eq_false (by decide +kernel)
def hold (n : Int) : Int := max (-1000000000000000000) (min 1000000000000000000 n)
theorem held_c (n : Int) : F_held [.int n] = .ok (.int (hold n)) := by
  refine runDef_rt ?_
  have e1 : dMin (.int 1000000000000000000) (.int n) = .ok (.int (min 1000000000000000000 n)) := by rw [dMin_int]; congr 2; split <;> omega
  have e2 : dMax (.int (-1000000000000000000)) (.int (min 1000000000000000000 n)) = .ok (.int (hold n)) := by rw [dMax_int]; congr 2; unfold hold; split <;> omega
  unfold b_held
  refine ret_ok ?_
  simp [env0, -dMin_int, -dMax_int, e1, e2]
theorem lheld_c (n : Int) : F_l_held [.int n] = .ok (.int (hold n)) := by
  refine runDef_rt ?_
  have p18 : dPow (.int 10) (.int 18) = .ok (.int 1000000000000000000) := pow_10_18
  unfold b_l_held
  by_cases h1 : 1000000000000000000 < n
  · refine seq_rt (if_yes ?_ (ret_ok ?_))
    · simp [env0, p18, -pow_10_18, h1]
    · simp [env0, p18, -pow_10_18]; unfold hold; omega
  · by_cases h2 : n < -1000000000000000000
    · refine seq_nx (if_no ?_ rfl) (seq_rt (if_yes ?_ (ret_ok ?_)))
      · simp [env0, p18, -pow_10_18]; omega
      · simp [env0, p18, -pow_10_18, h2]
      · simp [env0, p18, -pow_10_18]; unfold hold; omega
    · refine seq_nx (if_no ?_ rfl) (seq_nx (if_no ?_ rfl) (ret_ok ?_))
      · simp [env0, p18, -pow_10_18]; omega
      · simp [env0, p18, -pow_10_18]; omega
      · simp [env0]; unfold hold; omega
theorem whole_c (n : Int) : F_l_whole [.int n, .int n] = .ok (.bl true) := by
  refine runDef_rt ?_
  unfold b_l_whole
  refine ret_ok ?_
  simp [env0]
@[simp] theorem dInt_bl (b : Bool) : dInt (.bl b) = .ok (.int (if b = true then 1 else 0)) := Eq.trans rfl rfl
@[simp] theorem dIx_l0 (a : D) (r : List D) : dIx (.lst (a :: r)) (.int 0) = .ok a := by simp [dIx, atI, ixN]
@[simp] theorem dIx_l1 (a b : D) (r : List D) : dIx (.lst (a :: b :: r)) (.int 1) = .ok b := by
  have : (1 : Int) < r.length + 1 + 1 := by omega
  simp [dIx, atI, ixN, this]
@[simp] theorem dIx_l2 (a b c : D) (r : List D) : dIx (.lst (a :: b :: c :: r)) (.int 2) = .ok c := by
  have : (2 : Int) < r.length + 1 + 1 + 1 := by omega
  simp [dIx, atI, ixN, this]
/-- what an operation reckons -/
theorem fdiv_held (x y : Int) (hy : y ≠ 0) : (x - x.fmod y).fdiv y = x.fdiv y := by
  have e : x - x.fmod y = y * x.fdiv y := by
    have := Int.mul_fdiv_add_fmod x y
    omega
  rw [e, Int.mul_fdiv_cancel_left _ hy]
theorem beq_str (a b : Str) : D.beq (.str a) (.str b) = decide (a = b) := by
  simp [D.beq, D.py, PyData.eqv]
  exact Bool.eq_iff_iff.mpr (by simp)
theorem idx_c (op : Str) (k : Nat) (h : PyData.strOk op = true) (hk : [("add" : Str), "sub", "mul"].findIdx? (fun z => decide (z = op)) = some k) : dIndex (.lst [.str "add", .str "sub", .str "mul"]) [.str op] = .ok (.int (k : Int)) := by
  unfold dIndex
  dsimp only
  rw [if_pos ⟨h, by simp [D.pls, D.pl]⟩]
  have e : [D.str "add", .str "sub", .str "mul"].findIdx? (fun z => D.beq z (.str op)) = some k := by
    simp only [List.findIdx?_cons, beq_str] at hk ⊢
    exact hk
  rw [e]
theorem op_c {x y z : Int} (hx : Sm 64 x) (hy : Sm 64 y) (op : Str) (hop : op = "add" ∨ op = "sub" ∨ op = "mul" ∨ op = "quo" ∨ op = "less" ∨ op = "same" ∨ op = "both" ∨ op = "any") : ∃ v : Int, F_l_due [.str op, .int x, .int y, .int z] = .ok (.int v) ∧ F_reckoned [.str op, .lst [.int x, .int y]] = .ok (.int v) := by
  have mxy := dMul_int hx hy (by decide)
  have mxx := dMul_int hx hx (by decide)
  have myy := dMul_int hy hy (by decide)
  have i0 := idx_c "add" 0 (by decide +kernel) (by decide +kernel)
  have i1 := idx_c "sub" 1 (by decide +kernel) (by decide +kernel)
  have i2 := idx_c "mul" 2 (by decide +kernel) (by decide +kernel)
  have l1 := lheld_c
  have l2 := held_c
  rcases hop with rfl | rfl | rfl | rfl | rfl | rfl | rfl | rfl
  · refine ⟨hold (x + y), runDef_rt ?_, runDef_rt ?_⟩
    · unfold b_l_due
      simp [env0, eMeth, D.ofTy, i0, mxy, l1]
    · have w : F_worked [.str "add", .int x, .int y] = .ok (.int (x + y)) := by
        refine runDef_rt ?_
        unfold b_worked
        simp [env0]
      unfold b_reckoned
      simp [env0, w, l2]
  · refine ⟨hold (x - y), runDef_rt ?_, runDef_rt ?_⟩
    · unfold b_l_due
      simp [env0, eMeth, D.ofTy, i1, mxy, l1]
    · have w : F_worked [.str "sub", .int x, .int y] = .ok (.int (x - y)) := by
        refine runDef_rt ?_
        unfold b_worked
        simp [env0]
      unfold b_reckoned
      simp [env0, w, l2]
  · refine ⟨hold (x * y), runDef_rt ?_, runDef_rt ?_⟩
    · unfold b_l_due
      simp [env0, eMeth, D.ofTy, i2, mxy, l1]
    · have w : F_worked [.str "mul", .int x, .int y] = .ok (.int (x * y)) := by
        refine runDef_rt ?_
        unfold b_worked
        simp [env0, mxy]
      unfold b_reckoned
      simp [env0, w, l2]
  · by_cases h0 : y = 0
    · refine ⟨0, runDef_rt ?_, runDef_rt ?_⟩
      · unfold b_l_due
        simp [env0, h0]
      · have w : F_worked [.str "quo", .int x, .int y] = .ok (.int 0) := by
          refine runDef_rt ?_
          unfold b_worked
          simp [env0, h0]
        have hz : hold 0 = 0 := by decide
        unfold b_reckoned
        simp [env0, w, l2, hz]
    · have lg := hy.lg (by decide)
      have md : dMod (.int x) (.int y) = .ok (.int (x.fmod y)) := by rw [dMod_int, if_pos h0]
      have dv1 : dDiv (.int (x - x.fmod y)) (.int y) = .ok (.int (x.fdiv y)) := by rw [dDiv_int h0 lg, fdiv_held x y h0]
      have dv2 : dDiv (.int x) (.int y) = .ok (.int (x.fdiv y)) := dDiv_int h0 lg
      refine ⟨hold (x.fdiv y), runDef_rt ?_, runDef_rt ?_⟩
      · unfold b_l_due
        simp [env0, h0, md, dv1, l1, -dMod_lit, -dMod_int, -dDiv_lit]
      · have w : F_worked [.str "quo", .int x, .int y] = .ok (.int (x.fdiv y)) := by
          refine runDef_rt ?_
          unfold b_worked
          simp [env0, h0, dv2, -dDiv_lit]
        unfold b_reckoned
        simp [env0, w, l2]
  · refine ⟨if x < y then 1 else 0, runDef_rt ?_, runDef_rt ?_⟩
    · have e : (x - y < 0) = (x < y) := by apply propext; omega
      unfold b_l_due
      simp [env0, e]
    · have w : F_marked [.str "less", .int x, .int y] = .ok (.bl (decide (x < y))) := by
        refine runDef_rt ?_
        unfold b_marked
        simp [env0]
      unfold b_reckoned
      simp [env0, w]
  · refine ⟨if x = y then 1 else 0, runDef_rt ?_, runDef_rt ?_⟩
    · have e : (x - y = 0) = (x = y) := by apply propext; omega
      unfold b_l_due
      simp [env0, e]
    · have w : F_marked [.str "same", .int x, .int y] = .ok (.bl (decide (x = y))) := by
        refine runDef_rt ?_
        unfold b_marked
        simp [env0]
      unfold b_reckoned
      simp [env0, w]
  · refine ⟨if x ≠ 0 ∧ y ≠ 0 then 1 else 0, runDef_rt ?_, runDef_rt ?_⟩
    · unfold b_l_due
      by_cases h1 : x = 0 <;> by_cases h2 : y = 0 <;> simp [env0, mxy, h1, h2] <;> simp [h1, h2] at mxy <;> simp [mxy]
    · have w : F_marked [.str "both", .int x, .int y] = .ok (.bl (decide (x ≠ 0 ∧ y ≠ 0))) := by
        refine runDef_rt ?_
        unfold b_marked
        by_cases h1 : x = 0 <;> by_cases h2 : y = 0 <;> simp [env0, h1, h2]
      unfold b_reckoned
      by_cases h1 : x = 0 <;> by_cases h2 : y = 0 <;> simp [env0, w, h1, h2] <;> simp [h1, h2] at w <;> simp [w]
  · refine ⟨if x ≠ 0 ∨ y ≠ 0 then 1 else 0, runDef_rt ?_, runDef_rt ?_⟩
    · have e : (0 < x * x + y * y) = (x ≠ 0 ∨ y ≠ 0) := by
        apply propext
        have hx0 : 0 ≤ x * x := by
          rcases Int.le_total 0 x with h | h
          · exact Int.mul_nonneg h h
          · exact Int.mul_nonneg_of_nonpos_of_nonpos h h
        have hy0 : 0 ≤ y * y := by
          rcases Int.le_total 0 y with h | h
          · exact Int.mul_nonneg h h
          · exact Int.mul_nonneg_of_nonpos_of_nonpos h h
        constructor
        · intro h
          by_cases h1 : x = 0
          · refine .inr fun h2 => ?_
            rw [h1, h2] at h
            exact absurd h (by decide)
          · exact .inl h1
        · rintro (h | h)
          · have : x * x ≠ 0 := Int.mul_ne_zero h h
            omega
          · have : y * y ≠ 0 := Int.mul_ne_zero h h
            omega
      unfold b_l_due
      simp [env0, mxx, myy, e]
    · have w : F_marked [.str "any", .int x, .int y] = .ok (.bl (decide (x ≠ 0 ∨ y ≠ 0))) := by
        refine runDef_rt ?_
        unfold b_marked
        by_cases h1 : x = 0 <;> by_cases h2 : y = 0 <;> simp [env0, h1, h2]
      unfold b_reckoned
      simp [env0, w]

/-! ### terms reckoned -/
def namD (x y z : Int) : D := .dct false (kvG D.str D.int [("a", x), ("bc", y), ("abcdefgh", z)])
def rowD (x y z : Int) : D := .tup [.int z, .int y, .int x]
theorem str_inj (a b : Str) (h : D.str a = D.str b) : a = b := by injection h
theorem worth_num (x y z v : Int) (n : Nat) : R_worth (n + 1) [.tup [.str "num", .int v], rowD x y z, namD x y z] = .ok (.int v) := by
  refine runDef_rt ?_
  unfold b_worth
  generalize rowD x y z = r
  generalize namD x y z = m
  simp [env0]
theorem worth_field (x y z v : Int) (k : Nat) (hk : [z, y, x][k]? = some v) (n : Nat) : R_worth (n + 1) [.tup [.str "field", .int (k : Int)], rowD x y z, namD x y z] = .ok (.int v) := by
  refine runDef_rt ?_
  have fa : F_field_at [rowD x y z, .int (k : Int)] = .ok (.int v) := by
    refine runDef_rt ?_
    have h3 : k < 3 := by have := (List.getElem?_eq_some_iff.mp hk).1; simpa using this
    have ix : dIx (rowD x y z) (.int (k : Int)) = .ok (.int v) := by
      unfold rowD
      refine dIx_tup ?_
      have := congrArg (Option.map D.int) hk
      rw [← List.getElem?_map] at this
      exact this
    have ln : dLen (rowD x y z) = .ok (.int 3) := rfl
    have dA : dIxA (rowD x y z) (.int (k : Int)) = dIx (rowD x y z) (.int (k : Int)) := rfl
    generalize rowD x y z = r at *
    unfold b_field_at
    refine seq_rt (if_yes ?_ (ret_ok ?_))
    · simp [env0, ln]; omega
    · simp [env0, dA, ix]
  unfold b_worth
  generalize rowD x y z = r at *
  generalize namD x y z = m
  simp [env0, fa]
theorem worth_name (x y z v : Int) (k : Str) (hk : getG [(("a" : Str), x), ("bc", y), ("abcdefgh", z)] k = some v) (n : Nat) : R_worth (n + 1) [.tup [.str "name", .str k], rowD x y z, namD x y z] = .ok (.int v) := by
  refine runDef_rt ?_
  have g := get2_kvG (f := D.str) (g := D.int) str_inj (t := false) [(("a" : Str), x), ("bc", y), ("abcdefgh", z)] k 0 rfl
  rw [hk] at g
  have g' : eGet2 (eVarS 2) (eOp dIx (eVarS 0) (eC (.int 1))) (eC (.int 0)) [some (.tup [.str "name", .str k], false), some (rowD x y z, false), some (namD x y z, false), none] = .ok (.int v) := by
    unfold namD
    simp
    exact g
  unfold b_worth
  rw [show env0 3 4 [D.tup [.str "name", .str k], rowD x y z, namD x y z] = [some (.tup [.str "name", .str k], false), some (rowD x y z, false), some (namD x y z, false), none] from rfl]
  refine seq_nx (if_no ?_ rfl) (seq_nx (if_no ?_ rfl) (seq_rt (if_yes ?_ (ret_ok g'))))
  · simp
  · simp
  · simp
theorem worth_op {x y z : Int} {op : Str} (h1 : op ≠ "num") (h2 : op ≠ "field") (h3 : op ≠ "name") (l : List (D × Int)) (hl : l.length ≤ 10) (h : ∀ p ∈ l, R_worth 11 [p.1, rowD x y z, namD x y z] = .ok (.int p.2)) {v : Int} (hr : F_reckoned [.str op, .lst (l.map fun p => .int p.2)] = .ok (.int v)) : F_worth [.tup (.str op :: l.map (·.1)), rowD x y z, namD x y z] = .ok (.int v) := by
  show R_worth (11 + 1) _ = _
  refine runDef_rt ?_
  have ct : dCut (some 1) none (.tup (.str op :: l.map (·.1))) = .ok (.tup (l.map (·.1))) := by
    simp [dCut, cutL, HT.sIx]
    exact List.take_of_length_le (by simp)
  have cp : ∀ l : List (D × Int), (∀ p ∈ l, R_worth 11 [p.1, rowD x y z, namD x y z] = .ok (.int p.2)) → ∀ t : D, compL [some (t, false), some (rowD x y z, false), some (namD x y z, false), none] (.nm 3) bYes (eCall (R_worth 11) (aCons (eVarS 3) (aCons (eVarS 1) (aCons (eVarS 2) aNil)))) (l.map (·.1)) = .ok (l.map fun p => .int p.2) := by
    intro l
    induction l with
    | nil => intro _ _; rfl
    | cons p l ih =>
      intro h t
      have i1 := ih (fun q hq => h q (List.mem_cons_of_mem _ hq)) t
      have a1 := h p List.mem_cons_self
      rw [List.map_cons, List.map_cons]
      generalize rowD x y z = r at *
      generalize namD x y z = m at *
      generalize R_worth 11 = G at *
      unfold compL
      simp [bYes, a1, i1]
  have cp' := cp l h (.tup (.str op :: l.map (·.1)))
  have len : (l.map (·.1)).length ≤ sizeLine := by rw [List.length_map, PySem.sizeLine_eq]; omega
  have d0 : dIx (.tup (.str op :: l.map (·.1))) (.int 0) = .ok (.str op) := dIx_tup0 _ _
  generalize hT : D.tup (.str op :: l.map (·.1)) = T at *
  generalize rowD x y z = r at *
  generalize namD x y z = m at *
  unfold b_worth
  rw [show env0 3 4 [T, r, m] = [some (T, false), some (r, false), some (m, false), none] from rfl]
  refine seq_nx (if_no ?_ rfl) (seq_nx (if_no ?_ rfl) (seq_nx (if_no ?_ rfl) (ret_ok ?_)))
  · simp [d0, h1]
  · simp [d0, h2]
  · simp [d0, h3]
  · unfold eComp
    simp only [eCall_app, aCons_app, aNil_app, eOp_app, eVarS_app, eC_app, iSeq_app, eCut_app, oSome_app, oNone_app, List.getElem?_cons_zero, Res.bind_ok, d0, ct]
    rw [if_pos len]
    simp only [wipeE, List.foldl, List.set]
    rw [cp']
    simp only [Res.bind_ok]
    exact hr

theorem dAdd_tup (a b : List D) (h : a.length + b.length ≤ sizeLine) : dAdd (.tup a) (.tup b) = .ok (.tup (a ++ b)) := if_pos h
theorem part_step {s0 s1 s2 s6 s8 s9 s10 : Sl} {r m : D} {op : Str} {ps : List D} {v : Int} (hl : ps.length ≤ 10) (hw : F_worth [.tup (.str op :: ps), r, m] = .ok (.int v)) : b_l_fine_2 [s0, s1, s2, some (r, false), some (m, false), some (.str op, false), s6, some (.int v, false), s8, s9, s10, some (.lst ps, false)] = .nx [s0, s1, s2, some (r, false), some (m, false), some (.str op, false), s6, some (.int v, false), s8, s9, s10, some (.lst ps, false)] := by
  have ad := dAdd_tup [.str op] ps (by rw [PySem.sizeLine_eq]; simp; omega)
  have wc := whole_c v
  unfold b_l_fine_2
  refine seq_nx (if_no ?_ rfl) rfl
  simp [ad, hw, wc]
theorem cut_take (xs : List D) (k : Nat) : dCut none (some (k : Int)) (.lst xs) = .ok (.lst (xs.take k)) := by
  show Res.ok (D.lst (cutL xs none (some (k : Int)))) = _
  unfold cutL
  rw [HT.sIx_nat, HT.sIx_none, Nat.sub_zero, List.drop_zero, ← List.take_eq_take_min]
def numsL (x y z : Int) : List (D × Int) := [(.tup [.str "num", .int x], x), (.tup [.str "num", .int y], y), (.tup [.str "num", .int z], z)]
def fldsL (x y z : Int) : List (D × Int) := [(.tup [.str "field", .int 2], x), (.tup [.str "field", .int 1], y), (.tup [.str "field", .int 0], z)]
def namsL (x y z : Int) : List (D × Int) := [(.tup [.str "name", .str "a"], x), (.tup [.str "name", .str "bc"], y), (.tup [.str "name", .str "abcdefgh"], z)]
def mixL (x y z : Int) : List (D × Int) := [(.tup [.str "field", .int 2], x), (.tup [.str "name", .str "bc"], y), (.tup [.str "num", .int z], z)]
theorem parts_ok (x y z : Int) : ∀ l ∈ [numsL x y z, fldsL x y z, namsL x y z, mixL x y z], ∀ p ∈ l, R_worth 11 [p.1, rowD x y z, namD x y z] = .ok (.int p.2) := by
  have n := fun v => worth_num x y z v 10
  have f2 := worth_field x y z x 2 rfl 10
  have f1 := worth_field x y z y 1 rfl 10
  have f0 := worth_field x y z z 0 rfl 10
  have a := worth_name x y z x "a" (by simp [getG]) 10
  have b := worth_name x y z y "bc" (by simp [getG]) 10
  have c := worth_name x y z z "abcdefgh" (by simp [getG]) 10
  intro l hl p hp
  simp only [List.mem_cons, List.not_mem_nil, or_false] at hl
  rcases hl with rfl | rfl | rfl | rfl
  · simp only [numsL, List.mem_cons, List.not_mem_nil, or_false] at hp
    rcases hp with rfl | rfl | rfl
    · exact n x
    · exact n y
    · exact n z
  · simp only [fldsL, List.mem_cons, List.not_mem_nil, or_false] at hp
    rcases hp with rfl | rfl | rfl
    · exact f2
    · exact f1
    · exact f0
  · simp only [namsL, List.mem_cons, List.not_mem_nil, or_false] at hp
    rcases hp with rfl | rfl | rfl
    · exact a
    · exact b
    · exact c
  · simp only [mixL, List.mem_cons, List.not_mem_nil, or_false] at hp
    rcases hp with rfl | rfl | rfl
    · exact f2
    · exact b
    · exact n z
theorem op_step {x y z : Int} {op : Str} {k : Nat} {v : Int} (h1 : op ≠ "num") (h2 : op ≠ "field") (h3 : op ≠ "name") (hk : k = 1 ∨ k = 2 ∨ k = 3) (hm : (2 : Int) + (if op = "pick" then 1 else 0) - (if op = "not" then 1 else 0) = k) (hd : F_l_due [.str op, .int x, .int y, .int z] = .ok (.int v)) (hr : F_reckoned [.str op, .lst (([x, y, z].take k).map D.int)] = .ok (.int v)) (z6 z7 z8 z9 z10 z11 : Sl) :
    ∃ y6 y7 y8 y9 y10 y11, b_l_fine_1 [some (.int x, false), some (.int y, false), some (.int z, false), some (rowD x y z, false), some (namD x y z, false), some (.str op, false), z6, z7, z8, z9, z10, z11] = .nx [some (.int x, false), some (.int y, false), some (.int z, false), some (rowD x y z, false), some (namD x y z, false), some (.str op, false), y6, y7, y8, y9, y10, y11] := by
  have ok := parts_ok x y z
  have w : ∀ l ∈ [numsL x y z, fldsL x y z, namsL x y z, mixL x y z], F_worth [.tup (.str op :: (l.take k).map (·.1)), rowD x y z, namD x y z] = .ok (.int v) := fun l hl => by
    have e2 : (l.take k).map (fun p => D.int p.2) = ([x, y, z].take k).map D.int := by
      simp only [List.mem_cons, List.not_mem_nil, or_false] at hl
      rcases hl with rfl | rfl | rfl | rfl <;> rcases hk with rfl | rfl | rfl <;> rfl
    have ll : (l.take k).length ≤ 10 := by
      simp only [List.mem_cons, List.not_mem_nil, or_false] at hl
      rcases hl with rfl | rfl | rfl | rfl <;> rcases hk with rfl | rfl | rfl <;> simp [numsL, fldsL, namsL, mixL]
    refine worth_op h1 h2 h3 (l.take k) ll (fun p hp => ok l hl p (List.mem_of_mem_take hp)) ?_
    rw [e2]
    exact hr
  have w1 := w (numsL x y z) (by simp)
  have w2 := w (fldsL x y z) (by simp)
  have w3 := w (namsL x y z) (by simp)
  have w4 := w (mixL x y z) (by simp)
  have c1 := cut_take ((numsL x y z).map (·.1)) k
  have c2 := cut_take ((fldsL x y z).map (·.1)) k
  have c3 := cut_take ((namsL x y z).map (·.1)) k
  rw [← List.map_take] at c1 c2 c3
  have mx : ((dCut none (some 1) (.lst (((fldsL x y z).take k).map (·.1)))).bind fun a => (dCut (some 1) (some 2) (.lst (((namsL x y z).take k).map (·.1)))).bind fun b => dAdd a b).bind (fun a => (dCut (some 2) none (.lst (((numsL x y z).take k).map (·.1)))).bind fun b => dAdd a b) = .ok (.lst (((mixL x y z).take k).map (·.1))) := by
    have s3 : ∀ n : Nat, n ≤ 3 → n ≤ sizeLine := fun n h => by rw [PySem.sizeLine_eq]; omega
    rcases hk with rfl | rfl | rfl <;> simp [numsL, fldsL, namsL, mixL, dCut, cutL, HT.sIx, dAdd_lst, s3]
  have l1 : ∀ l ∈ [numsL x y z, fldsL x y z, namsL x y z, mixL x y z], ((l.take k).map (·.1)).length ≤ 10 := fun l hl => by
    simp only [List.mem_cons, List.not_mem_nil, or_false] at hl
    rcases hl with rfl | rfl | rfl | rfl <;> rcases hk with rfl | rfl | rfl <;> simp [numsL, fldsL, namsL, mixL]
  have L1 := l1 (numsL x y z) (by simp)
  have L2 := l1 (fldsL x y z) (by simp)
  have L3 := l1 (namsL x y z) (by simp)
  have L4 := l1 (mixL x y z) (by simp)
  have n1 : (numsL x y z).map (·.1) = [.tup [.str "num", .int x], .tup [.str "num", .int y], .tup [.str "num", .int z]] := rfl
  have n2 : (fldsL x y z).map (·.1) = [.tup [.str "field", .int 2], .tup [.str "field", .int 1], .tup [.str "field", .int 0]] := rfl
  have n3 : (namsL x y z).map (·.1) = [.tup [.str "name", .str "a"], .tup [.str "name", .str "bc"], .tup [.str "name", .str "abcdefgh"]] := rfl
  rw [n1] at c1
  rw [n2] at c2
  rw [n3] at c3
  clear w l1 ok hr n1 n2 n3
  generalize ((numsL x y z).take k).map (·.1) = P1 at *
  generalize ((fldsL x y z).take k).map (·.1) = P2 at *
  generalize ((namsL x y z).take k).map (·.1) = P3 at *
  generalize ((mixL x y z).take k).map (·.1) = P4 at *
  generalize rowD x y z = r at *
  generalize namD x y z = m at *
  refine ⟨some (.int (k : Int), false), some (.int v, false), some (.lst P1, false), some (.lst P2, false), some (.lst P3, false), some (.lst P4, false), ?_⟩
  have lp : turns (.nm 11) b_l_fine_2 [.lst P1, .lst P2, .lst P3, .lst P4] [some (.int x, false), some (.int y, false), some (.int z, false), some (r, false), some (m, false), some (.str op, false), some (.int (k : Int), false), some (.int v, false), some (.lst P1, false), some (.lst P2, false), some (.lst P3, false), z11] = .nx [some (.int x, false), some (.int y, false), some (.int z, false), some (r, false), some (m, false), some (.str op, false), some (.int (k : Int), false), some (.int v, false), some (.lst P1, false), some (.lst P2, false), some (.lst P3, false), some (.lst P4, false)] :=
    turns_one rfl (part_step L1 w1) (turns_one rfl (part_step L2 w2) (turns_one rfl (part_step L3 w3) (turns_one rfl (part_step L4 w4) rfl)))
  unfold b_l_fine_1
  refine seq_nx (set_ok (d := .int (k : Int)) ?_) (seq_nx (set_ok (d := .int v) ?_) (seq_nx (set_ok (d := .lst P1) ?_) (seq_nx (set_ok (d := .lst P2) ?_) (seq_nx (set_ok (d := .lst P3) ?_) (seq_nx (for_nx (ds := [.lst P1, .lst P2, .lst P3, .lst P4]) ?_ lp) rfl)))))
  · simp [hm]
  · simp [hd]
  · simp [c1]
  · simp [c2]
  · simp [c3]
  · simp only [iSeq_app, eLst_app, aCons_app, aNil_app, eVarS_app, eOp_app, eCut_app, oNone_app, oSome_app, eC_app, List.set, List.getElem?_cons_zero, List.getElem?_cons_succ, Res.bind_ok, mx]

def Good (x y z : Int) (op : Str) : Prop := ∃ (k : Nat) (v : Int), op ≠ "num" ∧ op ≠ "field" ∧ op ≠ "name" ∧ (k = 1 ∨ k = 2 ∨ k = 3) ∧ (2 : Int) + (if op = "pick" then 1 else 0) - (if op = "not" then 1 else 0) = k ∧ F_l_due [.str op, .int x, .int y, .int z] = .ok (.int v) ∧ F_reckoned [.str op, .lst (([x, y, z].take k).map D.int)] = .ok (.int v)
theorem ops_loop {x y z : Int} : ∀ (ops : List Str) (z5 z6 z7 z8 z9 z10 z11 : Sl), (∀ op ∈ ops, Good x y z op) → ∃ y5 y6 y7 y8 y9 y10 y11, turns (.nm 5) b_l_fine_1 (ops.map D.str) [some (.int x, false), some (.int y, false), some (.int z, false), some (rowD x y z, false), some (namD x y z, false), z5, z6, z7, z8, z9, z10, z11] = .nx [some (.int x, false), some (.int y, false), some (.int z, false), some (rowD x y z, false), some (namD x y z, false), y5, y6, y7, y8, y9, y10, y11]
  | [], z5, z6, z7, z8, z9, z10, z11, _ => ⟨z5, z6, z7, z8, z9, z10, z11, rfl⟩
  | op :: ops, z5, z6, z7, z8, z9, z10, z11, h => by
    obtain ⟨k, v, h1, h2, h3, h4, h5, h6, h7⟩ := h op List.mem_cons_self
    obtain ⟨w6, w7, w8, w9, w10, w11, st⟩ := op_step h1 h2 h3 h4 h5 h6 h7 z6 z7 z8 z9 z10 z11
    obtain ⟨y5, y6, y7, y8, y9, y10, y11, q⟩ := ops_loop (x := x) (y := y) (z := z) ops (some (.str op, false)) w6 w7 w8 w9 w10 w11 fun o ho => h o (List.mem_cons_of_mem _ ho)
    exact ⟨y5, y6, y7, y8, y9, y10, y11, turns_one rfl st q⟩
theorem good_all {x y z : Int} (hx : Sm 64 x) (hy : Sm 64 y) : ∀ op ∈ [("add" : Str), "sub", "mul", "quo", "less", "same", "both", "any", "not", "pick"], Good x y z op := by
  intro op h
  simp only [List.mem_cons, List.not_mem_nil, or_false] at h
  have two : ∀ op : Str, (op = "add" ∨ op = "sub" ∨ op = "mul" ∨ op = "quo" ∨ op = "less" ∨ op = "same" ∨ op = "both" ∨ op = "any") → Good x y z op := fun op ho => by
    obtain ⟨v, a, b⟩ := op_c (z := z) hx hy op ho
    refine ⟨2, v, ?_, ?_, ?_, .inr (.inl rfl), ?_, a, b⟩ <;> (rcases ho with rfl | rfl | rfl | rfl | rfl | rfl | rfl | rfl <;> simp)
  rcases h with h | h | h | h | h | h | h | h | h | h
  · exact two op (.inl h)
  · exact two op (.inr (.inl h))
  · exact two op (.inr (.inr (.inl h)))
  · exact two op (.inr (.inr (.inr (.inl h))))
  · exact two op (.inr (.inr (.inr (.inr (.inl h)))))
  · exact two op (.inr (.inr (.inr (.inr (.inr (.inl h))))))
  · exact two op (.inr (.inr (.inr (.inr (.inr (.inr (.inl h)))))))
  · exact two op (.inr (.inr (.inr (.inr (.inr (.inr (.inr h)))))))
  · subst h
    refine ⟨1, if x = 0 then 1 else 0, by simp, by simp, by simp, .inl rfl, by simp, runDef_rt ?_, runDef_rt ?_⟩
    · unfold b_l_due
      simp [env0]
    · unfold b_reckoned
      simp [env0]
  · subst h
    by_cases h0 : x = 0
    · refine ⟨3, z, by simp, by simp, by simp, .inr (.inr rfl), by simp, runDef_rt ?_, runDef_rt ?_⟩
      · unfold b_l_due
        simp [env0, h0]
      · unfold b_reckoned
        simp [env0, h0]
    · refine ⟨3, y, by simp, by simp, by simp, .inr (.inr rfl), by simp, runDef_rt ?_, runDef_rt ?_⟩
      · unfold b_l_due
        simp [env0, h0]
      · unfold b_reckoned
        simp [env0, h0]
theorem nam_eq (x y z : Int) : dEqD (namD x y z) (namD x y z) = .ok (.bl true) := by
  have key : ∀ p ∈ kvG D.str D.int [(("a" : Str), x), ("bc", y), ("abcdefgh", z)], dFind (kvG D.str D.int [(("a" : Str), x), ("bc", y), ("abcdefgh", z)]) p.1 = some p.2 ∧ p.2.flat = true := by
    intro p hp
    obtain ⟨q, hq, rfl⟩ := List.mem_map.mp hp
    refine ⟨?_, rfl⟩
    rw [find_kvG (g := D.int) str_inj]
    simp only [List.mem_cons, List.not_mem_nil, or_false] at hq
    rcases hq with rfl | rfl | rfl <;> simp [getG]
  unfold namD dEqD
  dsimp only
  rw [if_pos ⟨rfl, key⟩]
theorem fine_c {x y z : Int} (hx : Sm 64 x) (hy : Sm 64 y) : F_l_fine [.int x, .int y, .int z] = .ok (.bl true) := by
  refine runDef_rt ?_
  obtain ⟨y5, y6, y7, y8, y9, y10, y11, q⟩ := ops_loop (x := x) (y := y) (z := z) [("add" : Str), "sub", "mul", "quo", "less", "same", "both", "any", "not", "pick"] none none none none none none none (good_all hx hy)
  have ne := nam_eq x y z
  have ds : ∀ s3 s4 s5 s6 s7 s8 s9 s10 s11 : Sl, eDisp [(.inr "a", (eVarS 0)), (.inr "bc", (eVarS 1)), (.inr "abcdefgh", (eVarS 2))] [some (.int x, false), some (.int y, false), some (.int z, false), s3, s4, s5, s6, s7, s8, s9, s10, s11] = .ok (namD x y z) := fun _ _ _ _ _ _ _ _ _ => rfl
  have lst : (eLst (aCons (eC (.str "add")) (aCons (eC (.str "sub")) (aCons (eC (.str "mul")) (aCons (eC (.str "quo")) (aCons (eC (.str "less")) (aCons (eC (.str "same")) (aCons (eC (.str "both")) (aCons (eC (.str "any")) (aCons (eC (.str "not")) (aCons (eC (.str "pick")) aNil))))))))))) = fun _ => .ok (.lst ([("add" : Str), "sub", "mul", "quo", "less", "same", "both", "any", "not", "pick"].map D.str)) := rfl
  unfold b_l_fine
  rw [show env0 3 12 [D.int x, .int y, .int z] = [some (.int x, false), some (.int y, false), some (.int z, false), none, none, none, none, none, none, none, none, none] from rfl, lst]
  refine seq_nx (set_ok (d := rowD x y z) rfl) (seq_nx (set_ok (d := namD x y z) rfl) (seq_nx (for_nx (ds := [("add" : Str), "sub", "mul", "quo", "less", "same", "both", "any", "not", "pick"].map D.str) rfl q) (ret_ok ?_)))
  rw [eOp_app, ds]
  simp only [eVarS_app, List.getElem?_cons_zero, List.getElem?_cons_succ, Res.bind_ok]
  exact ne
theorem number_c (u : Int) : ∃ n : Int, F_l_number [.int u] = .ok (.int n) ∧ Sm 64 n := by
  have mm : dMul (.int 2) (.int (10 ^ 18)) = .ok (.int (2 * 10 ^ 18)) := dMul_int (n := 2) (m := 60) (by unfold Sm; decide) (by unfold Sm; decide) (by decide)
  have md : dMod (.int (u / 7)) (.int (2 * 10 ^ 18 + 1)) = .ok (.int (u / 7 % (2 * 10 ^ 18 + 1))) := dMod_lit _ _ (by decide)
  have q0 := Int.emod_nonneg (u / 7) (b := 2 * 10 ^ 18 + 1) (by decide)
  have q1 := Int.emod_lt_of_pos (u / 7) (b := 2 * 10 ^ 18 + 1) (by decide)
  by_cases h1 : u % 7 < 2
  · refine ⟨u / 7 % 11 - 5, runDef_rt ?_, show (u / 7 % 11 - 5).natAbs < 2 ^ 64 by omega⟩
    unfold b_l_number
    rw [show env0 1 2 [D.int u] = [some (.int u, false), none] from rfl]
    refine seq_nx (set_ok (d := .int (u % 7)) (by simp [-dMod_lit, dMod_lit u 7])) (seq_rt (if_yes ?_ (ret_ok ?_)))
    · simp [h1]
    · simp [-dMod_lit, dMod_lit (u / 7) 11]
  · by_cases h2 : u % 7 = 2
    · obtain ⟨n, hn, hs⟩ : ∃ n : Int, dIx (.lst [.int (10 ^ 18), .int (-(10 ^ 18)), .int (10 ^ 18 - 1), .int (1 - 10 ^ 18), .int (10 ^ 9), .int (-(10 ^ 9))]) (.int (u / 7 % 6)) = .ok (.int n) ∧ Sm 64 n := by
        have r0 := Int.emod_nonneg (u / 7) (b := 6) (by decide)
        have r1 := Int.emod_lt_of_pos (u / 7) (b := 6) (by decide)
        obtain ⟨z, hm, hz⟩ := dIx_ints (ns := [10 ^ 18, -(10 ^ 18), 10 ^ 18 - 1, 1 - 10 ^ 18, 10 ^ 9, -(10 ^ 9)]) (i := u / 7 % 6) (by simp; omega) (by simp; omega)
        refine ⟨z, hz, ?_⟩
        simp only [List.mem_cons, List.not_mem_nil, or_false] at hm
        rcases hm with rfl | rfl | rfl | rfl | rfl | rfl <;> (unfold Sm; decide)
      refine ⟨n, runDef_rt ?_, hs⟩
      unfold b_l_number
      rw [show env0 1 2 [D.int u] = [some (.int u, false), none] from rfl]
      refine seq_nx (set_ok (d := .int (u % 7)) (by simp [-dMod_lit, dMod_lit u 7])) (seq_nx (if_no ?_ rfl) (seq_rt (if_yes ?_ (ret_ok ?_))))
      · simp; omega
      · simp [h2]
      · simp only [eOp_app, eLst_app, aCons_app, aNil_app, eNeg_app, eC_app, eVarS_app, Res.bind_ok, pow_10_18, pow_10_9, dSub_int, List.set, List.getElem?_cons_zero, dDiv_lit u 7 (by decide) (by decide), dMod_lit (u / 7) 6 (by decide), dIxA_lst]
        exact hn
    · refine ⟨u / 7 % (2 * 10 ^ 18 + 1) - 10 ^ 18, runDef_rt ?_, show (u / 7 % (2 * 10 ^ 18 + 1) - 10 ^ 18).natAbs < 2 ^ 64 by omega⟩
      unfold b_l_number
      rw [show env0 1 2 [D.int u] = [some (.int u, false), none] from rfl]
      refine seq_nx (set_ok (d := .int (u % 7)) (by simp [-dMod_lit, dMod_lit u 7])) (seq_nx (if_no ?_ rfl) (seq_nx (if_no ?_ rfl) (ret_ok ?_)))
      · simp; omega
      · simp [h2]
      · simp only [eOp_app, eC_app, eVarS_app, Res.bind_ok, pow_10_18, mm, dSub_int, dAdd_int, List.set, List.getElem?_cons_zero, dDiv_lit u 7 (by decide) (by decide), md]
theorem holds_c {n : Int} (hn : Sm 300 n) : F_l_holds [.int n] = .ok (.bl true) := by
  refine runDef_rt ?_
  have p18 : dPow (.int 10) (.int 18) = .ok (.int 1000000000000000000) := pow_10_18
  have wc := whole_c (hold n)
  have hc := held_c n
  unfold b_l_holds
  rw [show env0 1 2 [D.int n] = [some (.int n, false), none] from rfl]
  refine seq_nx (set_ok (d := .int n) rfl) ?_
  by_cases h : 1000000000000000000 < n ∨ n < -1000000000000000000
  · have a0 : ((n.natAbs : Nat) : Int) ≠ 0 := by omega
    have lg : ((n.natAbs : Nat) : Int).natAbs.log2 < 9000 := Sm.lg (n := 300) (show ((n.natAbs : Nat) : Int).natAbs < 2 ^ 300 from by simpa [Sm] using hn) (by decide)
    have dv : dDiv (.int n) (.int (n.natAbs : Int)) = .ok (.int (if 0 < n then 1 else -1)) := by
      rw [dDiv_int a0 lg]
      congr 2
      rcases h with h | h
      · rw [if_pos (by omega), show ((n.natAbs : Nat) : Int) = n by omega, Int.fdiv_self (by omega)]
      · rw [if_neg (by omega), show ((n.natAbs : Nat) : Int) = -n by omega]
        have e : n = (-n) * (-1) := by omega
        conv => lhs; arg 1; rw [e]
        exact Int.mul_fdiv_cancel_left _ (by omega)
    have mm : dMul (.int (if 0 < n then 1 else -1)) (.int 1000000000000000000) = .ok (.int (hold n)) := by
      rcases h with h | h
      · rw [if_pos (by omega), dMul_int (n := 1) (m := 60) (by unfold Sm; decide) (by unfold Sm; decide) (by decide)]
        congr 2
        unfold hold; omega
      · rw [if_neg (by omega), dMul_int (n := 1) (m := 60) (by unfold Sm; decide) (by unfold Sm; decide) (by decide)]
        congr 2
        unfold hold; omega
    refine seq_nx (if_yes ?_ (seq_nx (set_ok (d := .int (hold n)) ?_) rfl)) (ret_ok ?_)
    · rcases h with h | h
      · simp [p18, -pow_10_18, h]
      · have h' : ¬ 1000000000000000000 < n := by omega
        simp [p18, -pow_10_18, h', h]
    · simp only [eOp_app, e1_app, eC_app, eVarS_app, List.set, List.getElem?_cons_zero, Res.bind_ok, dAbs_int, dv, p18, mm]
    · simp [hc, wc]
  · have e : hold n = n := by unfold hold; omega
    rw [e] at wc hc
    have h1 : ¬ 1000000000000000000 < n := fun z => h (.inl z)
    have h2 : ¬ n < -1000000000000000000 := fun z => h (.inr z)
    refine seq_nx (if_no ?_ rfl) (ret_ok ?_)
    · simp [p18, -pow_10_18, h1, h2]
    · simp [hc, wc]
theorem law_holds (ns : List Int) (hl : ns.length ≤ 63) (hb : ∀ z ∈ ns, intBits z ≤ 1048576) : F_law [.lst (ns.map D.int)] = .ok (.bl true) := by
  refine runDef_rt ?_
  have p18 : dPow (.int 10) (.int 18) = .ok (.int 1000000000000000000) := pow_10_18
  have ad : dAdd (.lst (ns.map D.int)) (.lst [.int 0, .int 0]) = .ok (.lst ((ns ++ [0, 0]).map D.int)) := by
    rw [dAdd_lst _ _ (by rw [PySem.sizeLine_eq]; simp; omega), List.map_append]
    rfl
  have wm := whole_c 1000000000000000000
  have f1 := fine_c (x := 0) (y := 0) (z := 7) (by unfold Sm; decide) (by unfold Sm; decide)
  have f2 := fine_c (x := 3) (y := -3) (z := 0) (by unfold Sm; decide) (by unfold Sm; decide)
  have mm : dMul (.int 2) (.int (10 ^ 60)) = .ok (.int (2 * 10 ^ 60)) := dMul_int (n := 2) (m := 200) (by unfold Sm; decide) (by unfold Sm; decide) (by decide)
  have r1 : range1D (.int (ns.length : Int)) = .ok (rangeD 0 ns.length) := range1D_int _ (Rg.of (by omega) (by omega))
  obtain ⟨C, hC⟩ : ∃ C, C = (ns ++ [0, 0]).map D.int := ⟨_, rfl⟩
  have gx : ∀ i : Nat, i < ns.length + 2 → ∃ z, dIx (.lst C) (.int (i : Int)) = .ok (.int z) := fun i hi => by
    obtain ⟨z, _, h⟩ := dIx_ints (ns := ns ++ [0, 0]) (i := (i : Int)) (by omega) (by simp; omega)
    exact ⟨z, by rw [hC]; exact h⟩
  obtain ⟨e', q, z2, z3, z4, z5, he⟩ := turns_range (s := 2) (body := b_law_1) (fun i e => ∃ z2 z3 z4 z5, e = [some (.lst (ns.map D.int), false), some (.lst C, false), z2, z3, z4, z5]) ns.length (by
    rintro i e hi ⟨z2, z3, z4, z5, rfl⟩
    obtain ⟨u, hu⟩ := gx i (by omega)
    obtain ⟨u1, hu1⟩ := gx (i + 1) (by omega)
    obtain ⟨u2, hu2⟩ := gx (i + 2) (by omega)
    rw [Int.natCast_add] at hu1 hu2
    rw [show ((1 : Nat) : Int) = 1 from rfl] at hu1
    rw [show ((2 : Nat) : Int) = 2 from rfl] at hu2
    obtain ⟨x, nx, sx⟩ := number_c u
    obtain ⟨y, ny, sy⟩ := number_c u1
    obtain ⟨z, nz, sz⟩ := number_c u2
    have fc := fine_c (z := z) sx sy
    obtain ⟨n, hn, sn⟩ : ∃ n : Int, (dMod (.int u) (.int (2 * 10 ^ 60 + 1))).bind (fun a => dSub a (.int (10 ^ 60))) = .ok (.int n) ∧ Sm 300 n := by
      have r0 := Int.emod_nonneg u (b := 2 * 10 ^ 60 + 1) (by decide)
      have r1 := Int.emod_lt_of_pos u (b := 2 * 10 ^ 60 + 1) (by decide)
      refine ⟨u % (2 * 10 ^ 60 + 1) - 10 ^ 60, by rw [dMod_lit _ _ (by decide)]; rfl, ?_⟩
      have : (u % (2 * 10 ^ 60 + 1) - 10 ^ 60).natAbs < 2 ^ 201 := by omega
      exact Nat.lt_of_lt_of_le this (Nat.pow_le_pow_right (by decide) (by decide))
    have h1 := holds_c sn
    have h2 := holds_c (n := x + y) ((sx.add sy).mono (by decide))
    have h3 := holds_c (n := x - y) (by rw [Int.sub_eq_add_neg]; exact (sx.add sy.neg).mono (by decide))
    have h4 := holds_c (n := x * y) ((sx.mul sy).mono (by decide))
    have mxy := dMul_int sx sy (by decide)
    refine ⟨[some (.lst (ns.map D.int), false), some (.lst C, false), some (.int (i : Int), false), some (.int x, false), some (.int y, false), some (.int n, false)], ?_, _, _, _, _, rfl⟩
    unfold b_law_1
    refine seq_nx (set_ok (d := .int x) ?_) (seq_nx (set_ok (d := .int y) ?_) (seq_nx (if_no ?_ rfl) (seq_nx (set_ok (d := .int n) ?_) (seq_nx (if_no ?_ rfl) rfl))))
    · simp [hu, nx]
    · simp [hu1, ny]
    · simp [hu2, nz, fc]
    · simp only [eOp_app, eC_app, eVarS_app, List.set, List.getElem?_cons_zero, List.getElem?_cons_succ, Res.bind_ok, dIxA_lst, hu, pow_10_60, mm, dAdd_int]
      exact hn
    · simp [h1, h2, h3, h4, mxy]) (e := [some (.lst (ns.map D.int), false), some (.lst C, false), none, none, none, none]) ⟨none, none, none, none, rfl⟩
  subst he
  rw [← hC] at ad
  unfold b_law
  rw [show env0 1 6 [D.lst (ns.map D.int)] = [some (.lst (ns.map D.int), false), none, none, none, none, none] from rfl]
  refine seq_nx (set_ok (d := .lst C) (by simp [ad])) (seq_nx (if_no ?_ rfl) (seq_nx (for_nx (ds := rangeD 0 ns.length) (by simp [r1]) q) (ret_ok rfl)))
  simp [p18, -pow_10_18, wm, f1, f2]

end DLaw
namespace DLaw
open PySem PySem.Spec PyProof.Rows L2
open DL
abbrev N_l_whole : List Str := ["_law_found", "_law_due_here"]
theorem sc_l_whole : FnScope N_l_whole ["_law_found", "_law_due_here"] (defScope s_l_whole) := ⟨rfl, rfl, rfl, by decide +kernel, rfl, by decide +kernel, by decide +kernel⟩
theorem ok_l_whole {P : Program} {w : World} {K : PySem.W.Frag} {mg : Str → Option Value} {base : Heap} {f : Addr} {fd : FuncData} (T : Txt K mg) (F : Fun K "_law_whole" "_law_whole" s_l_whole f fd)  :
    FnOk P w K mg base (L2.CX P w) 1 f fd ["_law_found", "_law_due_here"] (spD K mg 2 F_l_whole) :=
  fnD (N := N_l_whole) (k := 0) (fb := b_l_whole) F sc_l_whole fun cdv A outer s H G E hr tk hp =>
    by have hu := Room.hu hr; exact (dss_cons (ds_ret (al := []) (de_and (de_isi is_int rfl T.z_isinstance rfl (dr (de_vs (i := 0) rfl (by first | exact .inl rfl | exact .inr (.inl rfl) | exact .inr (.inr rfl)))) rfl T.z_int rfl) (de_and (de_not (de_isi is_bool rfl T.z_isinstance rfl (dr (de_vs (i := 0) rfl (by first | exact .inl rfl | exact .inr (.inl rfl) | exact .inr (.inr rfl)))) rfl T.z_bool rfl)) (de_one (de_cmp (od_eq hu) (dr (de_vs (i := 0) rfl (by first | exact .inl rfl | exact .inr (.inl rfl) | exact .inr (.inr rfl)))) (dr (de_vs (i := 1) rfl (by first | exact .inl rfl | exact .inr (.inl rfl) | exact .inr (.inr rfl)))) (nomark _)))))) dss_nil)
abbrev N_l_held : List Str := ["_law_n"]
theorem sc_l_held : FnScope N_l_held ["_law_n"] (defScope s_l_held) := ⟨rfl, rfl, rfl, by decide +kernel, rfl, by decide +kernel, by decide +kernel⟩
theorem ok_l_held {P : Program} {w : World} {K : PySem.W.Frag} {mg : Str → Option Value} {base : Heap} {f : Addr} {fd : FuncData} (T : Txt K mg) (F : Fun K "_law_held" "_law_held" s_l_held f fd)  :
    FnOk P w K mg base (L2.CX P w) 1 f fd ["_law_n"] (spD K mg 1 F_l_held) :=
  fnD (N := N_l_held) (k := 0) (fb := b_l_held) F sc_l_held fun cdv A outer s H G E hr tk hp =>
    by have hu := Room.hu hr; exact (dss_cons (ds_if (al := []) (dt_cmp (od_gt hu) (dr (de_vs (i := 0) rfl (by first | exact .inl rfl | exact .inr (.inl rfl) | exact .inr (.inr rfl)))) (dr (de_bin od_pow (dr de_int) (dr de_int))) (nomark _)) (dss_cons (ds_ret (al := []) (de_bin od_pow (dr de_int) (dr de_int))) dss_nil) dss_nil) (dss_cons (ds_if (al := []) (dt_cmp (od_lt hu) (dr (de_vs (i := 0) rfl (by first | exact .inl rfl | exact .inr (.inl rfl) | exact .inr (.inr rfl)))) (dr (de_neg (de_bin od_pow (dr de_int) (dr de_int)))) (nomark _)) (dss_cons (ds_ret (al := []) (de_neg (de_bin od_pow (dr de_int) (dr de_int)))) dss_nil) dss_nil) (dss_cons (ds_ret (al := []) (de_vs (i := 0) rfl (by first | exact .inl rfl | exact .inr (.inl rfl) | exact .inr (.inr rfl)))) dss_nil)))
abbrev N_l_due : List Str := ["_law_op", "_law_x", "_law_y", "_law_z"]
theorem sc_l_due : FnScope N_l_due ["_law_op", "_law_x", "_law_y", "_law_z"] (defScope s_l_due) := ⟨rfl, rfl, rfl, by decide +kernel, rfl, by decide +kernel, by decide +kernel⟩
theorem ok_l_due {P : Program} {w : World} {K : PySem.W.Frag} {mg : Str → Option Value} {base : Heap} {f : Addr} {fd : FuncData} (T : Txt K mg) (F : Fun K "_law_due" "_law_due" s_l_due f fd) (c_l_held : CallOk P w K mg base 1 "_law_held" ["_law_n"] F_l_held) :
    FnOk P w K mg base (L2.CX P w) 2 f fd ["_law_op", "_law_x", "_law_y", "_law_z"] (spD K mg 4 F_l_due) :=
  fnD (N := N_l_due) (k := 1) (fb := b_l_due) F sc_l_due fun cdv A outer s H G E hr tk hp =>
    by have hu := Room.hu hr; exact (dss_cons (ds_if (al := []) (dt_cmp (od_eq hu) (dr (de_vs (i := 0) rfl (by first | exact .inl rfl | exact .inr (.inl rfl) | exact .inr (.inr rfl)))) (dr de_str) (nomark _)) (dss_cons (ds_ret (al := []) (de_t1 c1_int rfl T.z_int rfl (dr (de_cmp (od_eq hu) (dr (de_vs (i := 1) rfl (by first | exact .inl rfl | exact .inr (.inl rfl) | exact .inr (.inr rfl)))) (dr de_int) (nomark _))))) dss_nil) dss_nil) (dss_cons (ds_if (al := []) (dt_cmp (od_eq hu) (dr (de_vs (i := 0) rfl (by first | exact .inl rfl | exact .inr (.inl rfl) | exact .inr (.inr rfl)))) (dr de_str) (nomark _)) (dss_cons (ds_ret (al := []) (de_ixA hr.hu1 (dr (de_of (df_lst (da_cons (de_vs (i := 2) rfl (by first | exact .inl rfl | exact .inr (.inl rfl) | exact .inr (.inr rfl))) (da_cons (de_vs (i := 3) rfl (by first | exact .inl rfl | exact .inr (.inl rfl) | exact .inr (.inr rfl))) da_nil)) (len_cons (len_cons len_nil)) (by rw [PySem.sizeLine_eq]; decide)))) (de_t1 c1_int rfl T.z_int rfl (dr (de_cmp (od_eq hu) (dr (de_vs (i := 1) rfl (by first | exact .inl rfl | exact .inr (.inl rfl) | exact .inr (.inr rfl)))) (dr de_int) (nomark _)))) (fun _ _ => rfl) (fun _ _ => rfl))) dss_nil) dss_nil) (dss_cons (ds_if (al := []) (dt_cmp (od_eq hu) (dr (de_vs (i := 0) rfl (by first | exact .inl rfl | exact .inr (.inl rfl) | exact .inr (.inr rfl)))) (dr de_str) (nomark _)) (dss_cons (ds_ret (al := []) (de_t1 c1_int rfl T.z_int rfl (dr (de_cmp (od_lt hu) (dr (de_bin od_sub (dr (de_vs (i := 1) rfl (by first | exact .inl rfl | exact .inr (.inl rfl) | exact .inr (.inr rfl)))) (dr (de_vs (i := 2) rfl (by first | exact .inl rfl | exact .inr (.inl rfl) | exact .inr (.inr rfl)))))) (dr de_int) (nomark _))))) dss_nil) dss_nil) (dss_cons (ds_if (al := []) (dt_cmp (od_eq hu) (dr (de_vs (i := 0) rfl (by first | exact .inl rfl | exact .inr (.inl rfl) | exact .inr (.inr rfl)))) (dr de_str) (nomark _)) (dss_cons (ds_ret (al := []) (de_t1 c1_int rfl T.z_int rfl (dr (de_cmp (od_eq hu) (dr (de_bin od_sub (dr (de_vs (i := 1) rfl (by first | exact .inl rfl | exact .inr (.inl rfl) | exact .inr (.inr rfl)))) (dr (de_vs (i := 2) rfl (by first | exact .inl rfl | exact .inr (.inl rfl) | exact .inr (.inr rfl)))))) (dr de_int) (nomark _))))) dss_nil) dss_nil) (dss_cons (ds_if (al := []) (dt_cmp (od_eq hu) (dr (de_vs (i := 0) rfl (by first | exact .inl rfl | exact .inr (.inl rfl) | exact .inr (.inr rfl)))) (dr de_str) (nomark _)) (dss_cons (ds_ret (al := []) (de_t1 c1_int rfl T.z_int rfl (dr (de_cmp (od_ne hu) (dr (de_bin od_mul (dr (de_vs (i := 1) rfl (by first | exact .inl rfl | exact .inr (.inl rfl) | exact .inr (.inr rfl)))) (dr (de_vs (i := 2) rfl (by first | exact .inl rfl | exact .inr (.inl rfl) | exact .inr (.inr rfl)))))) (dr de_int) (nomark _))))) dss_nil) dss_nil) (dss_cons (ds_if (al := []) (dt_cmp (od_eq hu) (dr (de_vs (i := 0) rfl (by first | exact .inl rfl | exact .inr (.inl rfl) | exact .inr (.inr rfl)))) (dr de_str) (nomark _)) (dss_cons (ds_ret (al := []) (de_t1 c1_int rfl T.z_int rfl (dr (de_cmp (od_gt hu) (dr (de_bin od_add (dr (de_bin od_mul (dr (de_vs (i := 1) rfl (by first | exact .inl rfl | exact .inr (.inl rfl) | exact .inr (.inr rfl)))) (dr (de_vs (i := 1) rfl (by first | exact .inl rfl | exact .inr (.inl rfl) | exact .inr (.inr rfl)))))) (dr (de_bin od_mul (dr (de_vs (i := 2) rfl (by first | exact .inl rfl | exact .inr (.inl rfl) | exact .inr (.inr rfl)))) (dr (de_vs (i := 2) rfl (by first | exact .inl rfl | exact .inr (.inl rfl) | exact .inr (.inr rfl)))))))) (dr de_int) (nomark _))))) dss_nil) dss_nil) (dss_cons (ds_if (al := []) (dt_cmp (od_eq hu) (dr (de_vs (i := 0) rfl (by first | exact .inl rfl | exact .inr (.inl rfl) | exact .inr (.inr rfl)))) (dr de_str) (nomark _)) (dss_cons (ds_if (al := []) (dt_cmp (od_eq hu) (dr (de_vs (i := 2) rfl (by first | exact .inl rfl | exact .inr (.inl rfl) | exact .inr (.inr rfl)))) (dr de_int) (nomark _)) (dss_cons (ds_ret (al := []) de_int) dss_nil) dss_nil) (dss_cons (ds_ret (al := []) (de_callE c_l_held hr rfl tk (da_cons (de_bin od_div (dr (de_bin od_sub (dr (de_vs (i := 1) rfl (by first | exact .inl rfl | exact .inr (.inl rfl) | exact .inr (.inr rfl)))) (dr (de_bin od_mod (dr (de_vs (i := 1) rfl (by first | exact .inl rfl | exact .inr (.inl rfl) | exact .inr (.inr rfl)))) (dr (de_vs (i := 2) rfl (by first | exact .inl rfl | exact .inr (.inl rfl) | exact .inr (.inr rfl)))))))) (dr (de_vs (i := 2) rfl (by first | exact .inl rfl | exact .inr (.inl rfl) | exact .inr (.inr rfl))))) da_nil) (leq_cons leq_nil))) dss_nil)) dss_nil) (dss_cons (ds_ret (al := []) (de_callE c_l_held hr rfl tk (da_cons (de_ixA hr.hu1 (dr (de_of (df_lst (da_cons (de_bin od_add (dr (de_vs (i := 1) rfl (by first | exact .inl rfl | exact .inr (.inl rfl) | exact .inr (.inr rfl)))) (dr (de_vs (i := 2) rfl (by first | exact .inl rfl | exact .inr (.inl rfl) | exact .inr (.inr rfl))))) (da_cons (de_bin od_sub (dr (de_vs (i := 1) rfl (by first | exact .inl rfl | exact .inr (.inl rfl) | exact .inr (.inr rfl)))) (dr (de_vs (i := 2) rfl (by first | exact .inl rfl | exact .inr (.inl rfl) | exact .inr (.inr rfl))))) (da_cons (de_bin od_mul (dr (de_vs (i := 1) rfl (by first | exact .inl rfl | exact .inr (.inl rfl) | exact .inr (.inr rfl)))) (dr (de_vs (i := 2) rfl (by first | exact .inl rfl | exact .inr (.inl rfl) | exact .inr (.inr rfl))))) da_nil))) (len_cons (len_cons (len_cons len_nil))) (by rw [PySem.sizeLine_eq]; decide)))) (de_meth PySem.F.plainAttrs_list PySem.F.slot_list_index PySem.F.type_list_index (meth_index hr.hu65) (dr (de_of (df_lst (da_cons de_str (da_cons de_str (da_cons de_str da_nil))) (len_cons (len_cons (len_cons len_nil))) (by rw [PySem.sizeLine_eq]; decide)))) (da_cons (de_vs (i := 0) rfl (by first | exact .inl rfl | exact .inr (.inl rfl) | exact .inr (.inr rfl))) da_nil)) (fun _ _ => rfl) (fun _ _ => rfl)) da_nil) (leq_cons leq_nil))) dss_nil))))))))
abbrev N_field_at : List Str := ["row", "k"]
theorem sc_field_at : FnScope N_field_at ["row", "k"] (defScope s_field_at) := ⟨rfl, rfl, rfl, by decide +kernel, rfl, by decide +kernel, by decide +kernel⟩
theorem ok_field_at {P : Program} {w : World} {K : PySem.W.Frag} {mg : Str → Option Value} {base : Heap} {f : Addr} {fd : FuncData} (T : Txt K mg) (F : Fun K "field_at" "field_at" s_field_at f fd)  :
    FnOk P w K mg base (L2.CX P w) 1 f fd ["row", "k"] (spD K mg 2 F_field_at) :=
  fnD (N := N_field_at) (k := 0) (fb := b_field_at) F sc_field_at fun cdv A outer s H G E hr tk hp =>
    by have hu := Room.hu hr; exact (dss_cons (ds_if (al := []) (dt_cmp (od_lt hu) (dr (de_vs (i := 1) rfl (by first | exact .inl rfl | exact .inr (.inl rfl) | exact .inr (.inr rfl)))) (dr (de_b1 c1_len rfl T.z_len rfl (dr (de_vs (i := 0) rfl (by first | exact .inl rfl | exact .inr (.inl rfl) | exact .inr (.inr rfl)))))) (nomark _)) (dss_cons (ds_ret (al := []) (de_ixA hr.hu1 (dr (de_vs (i := 0) rfl (by first | exact .inl rfl | exact .inr (.inl rfl) | exact .inr (.inr rfl)))) (de_vs (i := 1) rfl (by first | exact .inl rfl | exact .inr (.inl rfl) | exact .inr (.inr rfl))) (fun _ _ => rfl) (fun _ _ => rfl))) dss_nil) dss_nil) (dss_cons (ds_ret (al := []) de_int) dss_nil))
abbrev N_held : List Str := ["n"]
theorem sc_held : FnScope N_held ["n"] (defScope s_held) := ⟨rfl, rfl, rfl, by decide +kernel, rfl, by decide +kernel, by decide +kernel⟩
theorem ok_held {P : Program} {w : World} {K : PySem.W.Frag} {mg : Str → Option Value} {base : Heap} {f : Addr} {fd : FuncData} (T : Txt K mg) (F : Fun K "held" "held" s_held f fd)  :
    FnOk P w K mg base (L2.CX P w) 1 f fd ["n"] (spD K mg 1 F_held) :=
  fnD (N := N_held) (k := 0) (fb := b_held) F sc_held fun cdv A outer s H G E hr tk hp =>
    by exact (dss_cons (ds_ret (al := []) (de_b2 (c2_max rfl) rfl T.z_max rfl (dr (de_neg (de_con T.c_MOST rfl))) (dr (de_b2 (c2_min rfl) rfl T.z_min rfl (dr (de_con T.c_MOST rfl)) (dr (de_vs (i := 0) rfl (by first | exact .inl rfl | exact .inr (.inl rfl) | exact .inr (.inr rfl)))))))) dss_nil)
abbrev N_worked : List Str := ["op", "x", "y"]
theorem sc_worked : FnScope N_worked ["op", "x", "y"] (defScope s_worked) := ⟨rfl, rfl, rfl, by decide +kernel, rfl, by decide +kernel, by decide +kernel⟩
theorem ok_worked {P : Program} {w : World} {K : PySem.W.Frag} {mg : Str → Option Value} {base : Heap} {f : Addr} {fd : FuncData} (T : Txt K mg) (F : Fun K "worked" "worked" s_worked f fd)  :
    FnOk P w K mg base (L2.CX P w) 1 f fd ["op", "x", "y"] (spD K mg 3 F_worked) :=
  fnD (N := N_worked) (k := 0) (fb := b_worked) F sc_worked fun cdv A outer s H G E hr tk hp =>
    by have hu := Room.hu hr; exact (dss_cons (ds_if (al := []) (dt_cmp (od_eq hu) (dr (de_vs (i := 0) rfl (by first | exact .inl rfl | exact .inr (.inl rfl) | exact .inr (.inr rfl)))) (dr de_str) (nomark _)) (dss_cons (ds_ret (al := []) (de_bin od_add (dr (de_vs (i := 1) rfl (by first | exact .inl rfl | exact .inr (.inl rfl) | exact .inr (.inr rfl)))) (dr (de_vs (i := 2) rfl (by first | exact .inl rfl | exact .inr (.inl rfl) | exact .inr (.inr rfl)))))) dss_nil) dss_nil) (dss_cons (ds_if (al := []) (dt_cmp (od_eq hu) (dr (de_vs (i := 0) rfl (by first | exact .inl rfl | exact .inr (.inl rfl) | exact .inr (.inr rfl)))) (dr de_str) (nomark _)) (dss_cons (ds_ret (al := []) (de_bin od_sub (dr (de_vs (i := 1) rfl (by first | exact .inl rfl | exact .inr (.inl rfl) | exact .inr (.inr rfl)))) (dr (de_vs (i := 2) rfl (by first | exact .inl rfl | exact .inr (.inl rfl) | exact .inr (.inr rfl)))))) dss_nil) dss_nil) (dss_cons (ds_if (al := []) (dt_cmp (od_eq hu) (dr (de_vs (i := 0) rfl (by first | exact .inl rfl | exact .inr (.inl rfl) | exact .inr (.inr rfl)))) (dr de_str) (nomark _)) (dss_cons (ds_ret (al := []) (de_bin od_mul (dr (de_vs (i := 1) rfl (by first | exact .inl rfl | exact .inr (.inl rfl) | exact .inr (.inr rfl)))) (dr (de_vs (i := 2) rfl (by first | exact .inl rfl | exact .inr (.inl rfl) | exact .inr (.inr rfl)))))) dss_nil) dss_nil) (dss_cons (ds_if (al := []) (dt_cmp (od_eq hu) (dr (de_vs (i := 2) rfl (by first | exact .inl rfl | exact .inr (.inl rfl) | exact .inr (.inr rfl)))) (dr de_int) (nomark _)) (dss_cons (ds_ret (al := []) de_int) dss_nil) dss_nil) (dss_cons (ds_ret (al := []) (de_bin od_div (dr (de_vs (i := 1) rfl (by first | exact .inl rfl | exact .inr (.inl rfl) | exact .inr (.inr rfl)))) (dr (de_vs (i := 2) rfl (by first | exact .inl rfl | exact .inr (.inl rfl) | exact .inr (.inr rfl)))))) dss_nil)))))
abbrev N_marked : List Str := ["op", "x", "y"]
theorem sc_marked : FnScope N_marked ["op", "x", "y"] (defScope s_marked) := ⟨rfl, rfl, rfl, by decide +kernel, rfl, by decide +kernel, by decide +kernel⟩
theorem ok_marked {P : Program} {w : World} {K : PySem.W.Frag} {mg : Str → Option Value} {base : Heap} {f : Addr} {fd : FuncData} (T : Txt K mg) (F : Fun K "marked" "marked" s_marked f fd)  :
    FnOk P w K mg base (L2.CX P w) 1 f fd ["op", "x", "y"] (spD K mg 3 F_marked) :=
  fnD (N := N_marked) (k := 0) (fb := b_marked) F sc_marked fun cdv A outer s H G E hr tk hp =>
    by have hu := Room.hu hr; exact (dss_cons (ds_if (al := []) (dt_cmp (od_eq hu) (dr (de_vs (i := 0) rfl (by first | exact .inl rfl | exact .inr (.inl rfl) | exact .inr (.inr rfl)))) (dr de_str) (nomark _)) (dss_cons (ds_ret (al := []) (de_cmp (od_lt hu) (dr (de_vs (i := 1) rfl (by first | exact .inl rfl | exact .inr (.inl rfl) | exact .inr (.inr rfl)))) (dr (de_vs (i := 2) rfl (by first | exact .inl rfl | exact .inr (.inl rfl) | exact .inr (.inr rfl)))) (nomark _))) dss_nil) dss_nil) (dss_cons (ds_if (al := []) (dt_cmp (od_eq hu) (dr (de_vs (i := 0) rfl (by first | exact .inl rfl | exact .inr (.inl rfl) | exact .inr (.inr rfl)))) (dr de_str) (nomark _)) (dss_cons (ds_ret (al := []) (de_cmp (od_eq hu) (dr (de_vs (i := 1) rfl (by first | exact .inl rfl | exact .inr (.inl rfl) | exact .inr (.inr rfl)))) (dr (de_vs (i := 2) rfl (by first | exact .inl rfl | exact .inr (.inl rfl) | exact .inr (.inr rfl)))) (nomark _))) dss_nil) dss_nil) (dss_cons (ds_if (al := []) (dt_cmp (od_eq hu) (dr (de_vs (i := 0) rfl (by first | exact .inl rfl | exact .inr (.inl rfl) | exact .inr (.inr rfl)))) (dr de_str) (nomark _)) (dss_cons (ds_ret (al := []) (de_and (de_cmp (od_ne hu) (dr (de_vs (i := 1) rfl (by first | exact .inl rfl | exact .inr (.inl rfl) | exact .inr (.inr rfl)))) (dr de_int) (nomark _)) (de_one (de_cmp (od_ne hu) (dr (de_vs (i := 2) rfl (by first | exact .inl rfl | exact .inr (.inl rfl) | exact .inr (.inr rfl)))) (dr de_int) (nomark _))))) dss_nil) dss_nil) (dss_cons (ds_ret (al := []) (de_or (de_cmp (od_ne hu) (dr (de_vs (i := 1) rfl (by first | exact .inl rfl | exact .inr (.inl rfl) | exact .inr (.inr rfl)))) (dr de_int) (nomark _)) (de_one (de_cmp (od_ne hu) (dr (de_vs (i := 2) rfl (by first | exact .inl rfl | exact .inr (.inl rfl) | exact .inr (.inr rfl)))) (dr de_int) (nomark _))))) dss_nil))))
abbrev N_reckoned : List Str := ["op", "parts"]
theorem sc_reckoned : FnScope N_reckoned ["op", "parts"] (defScope s_reckoned) := ⟨rfl, rfl, rfl, by decide +kernel, rfl, by decide +kernel, by decide +kernel⟩
theorem ok_reckoned {P : Program} {w : World} {K : PySem.W.Frag} {mg : Str → Option Value} {base : Heap} {f : Addr} {fd : FuncData} (T : Txt K mg) (F : Fun K "reckoned" "reckoned" s_reckoned f fd) (c_held : CallOk P w K mg base 1 "held" ["n"] F_held) (c_worked : CallOk P w K mg base 1 "worked" ["op", "x", "y"] F_worked) (c_marked : CallOk P w K mg base 1 "marked" ["op", "x", "y"] F_marked) :
    FnOk P w K mg base (L2.CX P w) 2 f fd ["op", "parts"] (spD K mg 2 F_reckoned) :=
  fnD (N := N_reckoned) (k := 1) (fb := b_reckoned) F sc_reckoned fun cdv A outer s H G E hr tk hp =>
    by have hu := Room.hu hr; exact (dss_cons (ds_if (al := []) (dt_cmp (od_eq hu) (dr (de_vs (i := 0) rfl (by first | exact .inl rfl | exact .inr (.inl rfl) | exact .inr (.inr rfl)))) (dr de_str) (nomark _)) (dss_cons (ds_ret (al := []) (de_t1 c1_int rfl T.z_int rfl (dr (de_cmp (od_eq hu) (dr (de_ix (dr (de_vs (i := 1) rfl (by first | exact .inl rfl | exact .inr (.inl rfl) | exact .inr (.inr rfl)))) (dr de_int) (fun _ _ => rfl))) (dr de_int) (nomark _))))) dss_nil) dss_nil) (dss_cons (ds_if (al := []) (dt_cmp (od_eq hu) (dr (de_vs (i := 0) rfl (by first | exact .inl rfl | exact .inr (.inl rfl) | exact .inr (.inr rfl)))) (dr de_str) (nomark _)) (dss_cons (ds_if (al := []) (dt_cmp (od_ne hu) (dr (de_ix (dr (de_vs (i := 1) rfl (by first | exact .inl rfl | exact .inr (.inl rfl) | exact .inr (.inr rfl)))) (dr de_int) (fun _ _ => rfl))) (dr de_int) (nomark _)) (dss_cons (ds_ret (al := []) (de_ix (dr (de_vs (i := 1) rfl (by first | exact .inl rfl | exact .inr (.inl rfl) | exact .inr (.inr rfl)))) (dr de_int) (fun _ _ => rfl))) dss_nil) dss_nil) (dss_cons (ds_ret (al := []) (de_ix (dr (de_vs (i := 1) rfl (by first | exact .inl rfl | exact .inr (.inl rfl) | exact .inr (.inr rfl)))) (dr de_int) (fun _ _ => rfl))) dss_nil)) dss_nil) (dss_cons (ds_if (al := []) (dt_w (dw_or (dt_cmp (od_eq hu) (dr (de_vs (i := 0) rfl (by first | exact .inl rfl | exact .inr (.inl rfl) | exact .inr (.inr rfl)))) (dr de_str) (nomark _)) (dw_or (dt_cmp (od_eq hu) (dr (de_vs (i := 0) rfl (by first | exact .inl rfl | exact .inr (.inl rfl) | exact .inr (.inr rfl)))) (dr de_str) (nomark _)) (dw_or (dt_cmp (od_eq hu) (dr (de_vs (i := 0) rfl (by first | exact .inl rfl | exact .inr (.inl rfl) | exact .inr (.inr rfl)))) (dr de_str) (nomark _)) (dw_or1 (dt_cmp (od_eq hu) (dr (de_vs (i := 0) rfl (by first | exact .inl rfl | exact .inr (.inl rfl) | exact .inr (.inr rfl)))) (dr de_str) (nomark _))))))) (dss_cons (ds_ret (al := []) (de_callE c_held hr rfl tk (da_cons (de_callE c_worked hr rfl tk (da_cons (de_vs (i := 0) rfl (by first | exact .inl rfl | exact .inr (.inl rfl) | exact .inr (.inr rfl))) (da_cons (de_ix (dr (de_vs (i := 1) rfl (by first | exact .inl rfl | exact .inr (.inl rfl) | exact .inr (.inr rfl)))) (dr de_int) (fun _ _ => rfl)) (da_cons (de_ix (dr (de_vs (i := 1) rfl (by first | exact .inl rfl | exact .inr (.inl rfl) | exact .inr (.inr rfl)))) (dr de_int) (fun _ _ => rfl)) da_nil))) (leq_cons (leq_cons (leq_cons leq_nil)))) da_nil) (leq_cons leq_nil))) dss_nil) dss_nil) (dss_cons (ds_ret (al := []) (de_t1 c1_int rfl T.z_int rfl (dr (de_callE c_marked hr rfl tk (da_cons (de_vs (i := 0) rfl (by first | exact .inl rfl | exact .inr (.inl rfl) | exact .inr (.inr rfl))) (da_cons (de_ix (dr (de_vs (i := 1) rfl (by first | exact .inl rfl | exact .inr (.inl rfl) | exact .inr (.inr rfl)))) (dr de_int) (fun _ _ => rfl)) (da_cons (de_ix (dr (de_vs (i := 1) rfl (by first | exact .inl rfl | exact .inr (.inl rfl) | exact .inr (.inr rfl)))) (dr de_int) (fun _ _ => rfl)) da_nil))) (leq_cons (leq_cons (leq_cons leq_nil))))))) dss_nil))))
abbrev N_worth : List Str := ["term", "row", "names", "part"]
theorem sc_worth : FnScope N_worth ["term", "row", "names"] (defScope s_worth) := ⟨rfl, rfl, rfl, by decide +kernel, rfl, by decide +kernel, by decide +kernel⟩
theorem ok_worth {P : Program} {w : World} {K : PySem.W.Frag} {mg : Str → Option Value} {base : Heap} {f : Addr} {fd : FuncData} {k : Nat} {G : List D → Res D} (T : Txt K mg) (F : Fun K "worth" "worth" s_worth f fd) (c_field_at : CallOk P w K mg base k "field_at" ["row", "k"] F_field_at) (c_reckoned : CallOk P w K mg base k "reckoned" ["op", "parts"] F_reckoned) (c_worth : CallOk P w K mg base k "worth" ["term", "row", "names"] G) :
    FnOk P w K mg base (L2.CX P w) (k + 1) f fd ["term", "row", "names"] (spD K mg 3 (runDef 3 4 (b_worth G))) :=
  fnD (N := N_worth) (k := k) (fb := b_worth G) F sc_worth fun cdv A outer s H _ E hr tk hp =>
    by have hu := Room.hu hr; exact (dss_cons (ds_if (al := []) (dt_cmp (od_eq hu) (dr (de_ix (dr (de_vs (i := 0) rfl (by first | exact .inl rfl | exact .inr (.inl rfl) | exact .inr (.inr rfl)))) (dr de_int) (fun _ _ => rfl))) (dr de_str) (nomark _)) (dss_cons (ds_ret (al := []) (de_ix (dr (de_vs (i := 0) rfl (by first | exact .inl rfl | exact .inr (.inl rfl) | exact .inr (.inr rfl)))) (dr de_int) (fun _ _ => rfl))) dss_nil) dss_nil) (dss_cons (ds_if (al := []) (dt_cmp (od_eq hu) (dr (de_ix (dr (de_vs (i := 0) rfl (by first | exact .inl rfl | exact .inr (.inl rfl) | exact .inr (.inr rfl)))) (dr de_int) (fun _ _ => rfl))) (dr de_str) (nomark _)) (dss_cons (ds_ret (al := []) (de_callE c_field_at hr rfl tk (da_cons (de_vs (i := 1) rfl (by first | exact .inl rfl | exact .inr (.inl rfl) | exact .inr (.inr rfl))) (da_cons (de_ix (dr (de_vs (i := 0) rfl (by first | exact .inl rfl | exact .inr (.inl rfl) | exact .inr (.inr rfl)))) (dr de_int) (fun _ _ => rfl)) da_nil)) (leq_cons (leq_cons leq_nil)))) dss_nil) dss_nil) (dss_cons (ds_if (al := []) (dt_cmp (od_eq hu) (dr (de_ix (dr (de_vs (i := 0) rfl (by first | exact .inl rfl | exact .inr (.inl rfl) | exact .inr (.inr rfl)))) (dr de_int) (fun _ _ => rfl))) (dr de_str) (nomark _)) (dss_cons (ds_ret (al := []) (de_get2 hr.hu1 (dr (de_vs (i := 2) rfl (by first | exact .inl rfl | exact .inr (.inl rfl) | exact .inr (.inr rfl)))) (de_ix (dr (de_vs (i := 0) rfl (by first | exact .inl rfl | exact .inr (.inl rfl) | exact .inr (.inr rfl)))) (dr de_int) (fun _ _ => rfl)) de_int ⟨rfl, rfl, rfl, rfl⟩)) dss_nil) dss_nil) (dss_cons (ds_ret (al := []) (de_callE c_reckoned hr rfl tk (da_cons (de_ix (dr (de_vs (i := 0) rfl (by first | exact .inl rfl | exact .inr (.inl rfl) | exact .inr (.inr rfl)))) (dr de_int) (fun _ _ => rfl)) (da_cons (de_of (df_comp (own := [("part", 3)]) rfl sc_worth.nd (dir_of (di_seq (de_cut (dr (de_vs (i := 0) rfl (by first | exact .inl rfl | exact .inr (.inl rfl) | exact .inr (.inr rfl)))) (do_some de_int) do_none))) (blkOk_by (N := N_worth) (sc := defScope s_worth) (by decide +kernel)) (fun _ _ _ _ _ => (dg_name (i := 3) sc_worth.nd rfl (by first | exact .inl rfl | exact .inr rfl))) (fun _ _ _ _ _ => dts_nil) (fun _ _ _ _ _ => (de_callE c_worth hr rfl takes0 (da_cons (de_vs (i := 3) rfl (by first | exact .inl rfl | exact .inr (.inl rfl) | exact .inr (.inr rfl))) (da_cons (de_vs (i := 1) rfl (by first | exact .inl rfl | exact .inr (.inl rfl) | exact .inr (.inr rfl))) (da_cons (de_vs (i := 2) rfl (by first | exact .inl rfl | exact .inr (.inl rfl) | exact .inr (.inr rfl))) da_nil))) (leq_cons (leq_cons (leq_cons leq_nil))))) (by decide))) da_nil)) (leq_cons (leq_cons leq_nil)))) dss_nil))))
abbrev N_l_fine : List Str := ["_law_x", "_law_y", "_law_z", "_law_row", "_law_names", "_law_op", "_law_many", "_law_due_here", "_law_nums", "_law_fields", "_law_called", "_law_parts"]
theorem sc_l_fine : FnScope N_l_fine ["_law_x", "_law_y", "_law_z"] (defScope s_l_fine) := ⟨rfl, rfl, rfl, by decide +kernel, rfl, by decide +kernel, by decide +kernel⟩
theorem ok_l_fine {P : Program} {w : World} {K : PySem.W.Frag} {mg : Str → Option Value} {base : Heap} {f : Addr} {fd : FuncData} (T : Txt K mg) (F : Fun K "_law_fine" "_law_fine" s_l_fine f fd) (c_l_due : CallOk P w K mg base 14 "_law_due" ["_law_op", "_law_x", "_law_y", "_law_z"] F_l_due) (c_l_whole : CallOk P w K mg base 14 "_law_whole" ["_law_found", "_law_due_here"] F_l_whole) (c_worth : CallOk P w K mg base 14 "worth" ["term", "row", "names"] F_worth) :
    FnOk P w K mg base (L2.CX P w) 15 f fd ["_law_x", "_law_y", "_law_z"] (spD K mg 3 F_l_fine) :=
  fnD (N := N_l_fine) (k := 14) (fb := b_l_fine) F sc_l_fine fun cdv A outer s H G E hr tk hp =>
    by have hu := Room.hu hr; exact (dss_cons (ds_set (al := []) (i := 3) sc_l_fine.nd rfl (by first | exact .inl rfl | exact .inr rfl) (de_tup (da_cons (de_vs (i := 2) rfl (by first | exact .inl rfl | exact .inr (.inl rfl) | exact .inr (.inr rfl))) (da_cons (de_vs (i := 1) rfl (by first | exact .inl rfl | exact .inr (.inl rfl) | exact .inr (.inr rfl))) (da_cons (de_vs (i := 0) rfl (by first | exact .inl rfl | exact .inr (.inl rfl) | exact .inr (.inr rfl))) da_nil))) (len_cons (len_cons (len_cons len_nil))) (by rw [PySem.sizeLine_eq]; decide))) (dss_cons (ds_set (al := []) (i := 4) sc_l_fine.nd rfl (by first | exact .inl rfl | exact .inr rfl) (de_of (df_disp (dps_str pe_str (de_vs (i := 0) rfl (by first | exact .inl rfl | exact .inr (.inl rfl) | exact .inr (.inr rfl))) (dps_str pe_str (de_vs (i := 1) rfl (by first | exact .inl rfl | exact .inr (.inl rfl) | exact .inr (.inr rfl))) (dps_str pe_str (de_vs (i := 2) rfl (by first | exact .inl rfl | exact .inr (.inl rfl) | exact .inr (.inr rfl))) dps_nil))) rfl rfl (by simp) (by decide) (by decide +kernel) (by decide)))) (dss_cons (ds_for (al := []) hp rfl (di_seq (de_of (df_lst (da_cons de_str (da_cons de_str (da_cons de_str (da_cons de_str (da_cons de_str (da_cons de_str (da_cons de_str (da_cons de_str (da_cons de_str (da_cons de_str da_nil)))))))))) (len_cons (len_cons (len_cons (len_cons (len_cons (len_cons (len_cons (len_cons (len_cons (len_cons len_nil)))))))))) (by rw [PySem.sizeLine_eq]; decide)))) (dg_name (i := 5) sc_l_fine.nd rfl (by first | exact .inl rfl | exact .inr rfl)) (fun _ => (dss_cons (ds_set (al := []) (i := 6) sc_l_fine.nd rfl (by first | exact .inl rfl | exact .inr rfl) (de_bin od_sub (dr (de_bin od_add (dr de_int) (dr (de_t1 c1_int rfl T.z_int rfl (dr (de_cmp (od_eq hu) (dr (de_vs (i := 5) rfl (by first | exact .inl rfl | exact .inr (.inl rfl) | exact .inr (.inr rfl)))) (dr de_str) (nomark _))))))) (dr (de_t1 c1_int rfl T.z_int rfl (dr (de_cmp (od_eq hu) (dr (de_vs (i := 5) rfl (by first | exact .inl rfl | exact .inr (.inl rfl) | exact .inr (.inr rfl)))) (dr de_str) (nomark _))))))) (dss_cons (ds_set (al := []) (i := 7) sc_l_fine.nd rfl (by first | exact .inl rfl | exact .inr rfl) (de_callE c_l_due hr rfl tk (da_cons (de_vs (i := 5) rfl (by first | exact .inl rfl | exact .inr (.inl rfl) | exact .inr (.inr rfl))) (da_cons (de_vs (i := 0) rfl (by first | exact .inl rfl | exact .inr (.inl rfl) | exact .inr (.inr rfl))) (da_cons (de_vs (i := 1) rfl (by first | exact .inl rfl | exact .inr (.inl rfl) | exact .inr (.inr rfl))) (da_cons (de_vs (i := 2) rfl (by first | exact .inl rfl | exact .inr (.inl rfl) | exact .inr (.inr rfl))) da_nil)))) (leq_cons (leq_cons (leq_cons (leq_cons leq_nil)))))) (dss_cons (ds_set (al := []) (i := 8) sc_l_fine.nd rfl (by first | exact .inl rfl | exact .inr rfl) (de_cut (dr (de_of (df_lst (da_cons (de_tup (da_cons de_str (da_cons (de_vs (i := 0) rfl (by first | exact .inl rfl | exact .inr (.inl rfl) | exact .inr (.inr rfl))) da_nil)) (len_cons (len_cons len_nil)) (by rw [PySem.sizeLine_eq]; decide)) (da_cons (de_tup (da_cons de_str (da_cons (de_vs (i := 1) rfl (by first | exact .inl rfl | exact .inr (.inl rfl) | exact .inr (.inr rfl))) da_nil)) (len_cons (len_cons len_nil)) (by rw [PySem.sizeLine_eq]; decide)) (da_cons (de_tup (da_cons de_str (da_cons (de_vs (i := 2) rfl (by first | exact .inl rfl | exact .inr (.inl rfl) | exact .inr (.inr rfl))) da_nil)) (len_cons (len_cons len_nil)) (by rw [PySem.sizeLine_eq]; decide)) da_nil))) (len_cons (len_cons (len_cons len_nil))) (by rw [PySem.sizeLine_eq]; decide)))) do_none (do_some (de_vs (i := 6) rfl (by first | exact .inl rfl | exact .inr (.inl rfl) | exact .inr (.inr rfl)))))) (dss_cons (ds_set (al := []) (i := 9) sc_l_fine.nd rfl (by first | exact .inl rfl | exact .inr rfl) (de_cut (dr (de_of (df_lst (da_cons (de_tup (da_cons de_str (da_cons de_int da_nil)) (len_cons (len_cons len_nil)) (by rw [PySem.sizeLine_eq]; decide)) (da_cons (de_tup (da_cons de_str (da_cons de_int da_nil)) (len_cons (len_cons len_nil)) (by rw [PySem.sizeLine_eq]; decide)) (da_cons (de_tup (da_cons de_str (da_cons de_int da_nil)) (len_cons (len_cons len_nil)) (by rw [PySem.sizeLine_eq]; decide)) da_nil))) (len_cons (len_cons (len_cons len_nil))) (by rw [PySem.sizeLine_eq]; decide)))) do_none (do_some (de_vs (i := 6) rfl (by first | exact .inl rfl | exact .inr (.inl rfl) | exact .inr (.inr rfl)))))) (dss_cons (ds_set (al := []) (i := 10) sc_l_fine.nd rfl (by first | exact .inl rfl | exact .inr rfl) (de_cut (dr (de_of (df_lst (da_cons (de_tup (da_cons de_str (da_cons de_str da_nil)) (len_cons (len_cons len_nil)) (by rw [PySem.sizeLine_eq]; decide)) (da_cons (de_tup (da_cons de_str (da_cons de_str da_nil)) (len_cons (len_cons len_nil)) (by rw [PySem.sizeLine_eq]; decide)) (da_cons (de_tup (da_cons de_str (da_cons de_str da_nil)) (len_cons (len_cons len_nil)) (by rw [PySem.sizeLine_eq]; decide)) da_nil))) (len_cons (len_cons (len_cons len_nil))) (by rw [PySem.sizeLine_eq]; decide)))) do_none (do_some (de_vs (i := 6) rfl (by first | exact .inl rfl | exact .inr (.inl rfl) | exact .inr (.inr rfl)))))) (dss_cons (ds_for (al := []) hp rfl (di_seq (de_of (df_lst (da_cons (de_vs (i := 8) rfl (by first | exact .inl rfl | exact .inr (.inl rfl) | exact .inr (.inr rfl))) (da_cons (de_vs (i := 9) rfl (by first | exact .inl rfl | exact .inr (.inl rfl) | exact .inr (.inr rfl))) (da_cons (de_vs (i := 10) rfl (by first | exact .inl rfl | exact .inr (.inl rfl) | exact .inr (.inr rfl))) (da_cons (de_bin od_add (dr (de_bin od_add (dr (de_cut (dr (de_vs (i := 9) rfl (by first | exact .inl rfl | exact .inr (.inl rfl) | exact .inr (.inr rfl)))) do_none (do_some de_int))) (dr (de_cut (dr (de_vs (i := 10) rfl (by first | exact .inl rfl | exact .inr (.inl rfl) | exact .inr (.inr rfl)))) (do_some de_int) (do_some de_int))))) (dr (de_cut (dr (de_vs (i := 8) rfl (by first | exact .inl rfl | exact .inr (.inl rfl) | exact .inr (.inr rfl)))) (do_some de_int) do_none))) da_nil)))) (len_cons (len_cons (len_cons (len_cons len_nil)))) (by rw [PySem.sizeLine_eq]; decide)))) (dg_name (i := 11) sc_l_fine.nd rfl (by first | exact .inl rfl | exact .inr rfl)) (fun _ => (dss_cons (ds_if (al := []) (dt_not (dt_truth (dr (de_callE c_l_whole hr rfl tk (da_cons (de_callE c_worth hr rfl tk (da_cons (de_bin od_add (dr (de_tup (da_cons (de_vs (i := 5) rfl (by first | exact .inl rfl | exact .inr (.inl rfl) | exact .inr (.inr rfl))) da_nil) (len_cons len_nil) (by rw [PySem.sizeLine_eq]; decide))) (dr (de_t1 c1_tuple rfl T.z_tuple rfl (dr (de_vs (i := 11) rfl (by first | exact .inl rfl | exact .inr (.inl rfl) | exact .inr (.inr rfl))))))) (da_cons (de_vs (i := 3) rfl (by first | exact .inl rfl | exact .inr (.inl rfl) | exact .inr (.inr rfl))) (da_cons (de_vs (i := 4) rfl (by first | exact .inl rfl | exact .inr (.inl rfl) | exact .inr (.inr rfl))) da_nil))) (leq_cons (leq_cons (leq_cons leq_nil)))) (da_cons (de_vs (i := 7) rfl (by first | exact .inl rfl | exact .inr (.inl rfl) | exact .inr (.inr rfl))) da_nil)) (leq_cons (leq_cons leq_nil)))) (fun _ => rfl))) (dss_cons (ds_ret (al := []) de_bl) dss_nil) dss_nil) dss_nil))) dss_nil)))))))) (dss_cons (ds_ret (al := []) (de_cmp (od_eqD hr.hu0) (dr (de_vs (i := 4) rfl (by first | exact .inl rfl | exact .inr (.inl rfl) | exact .inr (.inr rfl)))) (dr (de_of (df_disp (dps_str pe_str (de_vs (i := 0) rfl (by first | exact .inl rfl | exact .inr (.inl rfl) | exact .inr (.inr rfl))) (dps_str pe_str (de_vs (i := 1) rfl (by first | exact .inl rfl | exact .inr (.inl rfl) | exact .inr (.inr rfl))) (dps_str pe_str (de_vs (i := 2) rfl (by first | exact .inl rfl | exact .inr (.inl rfl) | exact .inr (.inr rfl))) dps_nil))) rfl rfl (by simp) (by decide) (by decide +kernel) (by decide)))) (nomark _))) dss_nil))))
abbrev N_l_number : List Str := ["_law_n", "_law_way"]
theorem sc_l_number : FnScope N_l_number ["_law_n"] (defScope s_l_number) := ⟨rfl, rfl, rfl, by decide +kernel, rfl, by decide +kernel, by decide +kernel⟩
theorem ok_l_number {P : Program} {w : World} {K : PySem.W.Frag} {mg : Str → Option Value} {base : Heap} {f : Addr} {fd : FuncData} (T : Txt K mg) (F : Fun K "_law_number" "_law_number" s_l_number f fd)  :
    FnOk P w K mg base (L2.CX P w) 1 f fd ["_law_n"] (spD K mg 1 F_l_number) :=
  fnD (N := N_l_number) (k := 0) (fb := b_l_number) F sc_l_number fun cdv A outer s H G E hr tk hp =>
    by have hu := Room.hu hr; exact (dss_cons (ds_set (al := []) (i := 1) sc_l_number.nd rfl (by first | exact .inl rfl | exact .inr rfl) (de_bin od_mod (dr (de_vs (i := 0) rfl (by first | exact .inl rfl | exact .inr (.inl rfl) | exact .inr (.inr rfl)))) (dr de_int))) (dss_cons (ds_if (al := []) (dt_cmp (od_lt hu) (dr (de_vs (i := 1) rfl (by first | exact .inl rfl | exact .inr (.inl rfl) | exact .inr (.inr rfl)))) (dr de_int) (nomark _)) (dss_cons (ds_ret (al := []) (de_bin od_sub (dr (de_bin od_mod (dr (de_bin od_div (dr (de_vs (i := 0) rfl (by first | exact .inl rfl | exact .inr (.inl rfl) | exact .inr (.inr rfl)))) (dr de_int))) (dr de_int))) (dr de_int))) dss_nil) dss_nil) (dss_cons (ds_if (al := []) (dt_cmp (od_eq hu) (dr (de_vs (i := 1) rfl (by first | exact .inl rfl | exact .inr (.inl rfl) | exact .inr (.inr rfl)))) (dr de_int) (nomark _)) (dss_cons (ds_ret (al := []) (de_ixA hr.hu1 (dr (de_of (df_lst (da_cons (de_bin od_pow (dr de_int) (dr de_int)) (da_cons (de_neg (de_bin od_pow (dr de_int) (dr de_int))) (da_cons (de_bin od_sub (dr (de_bin od_pow (dr de_int) (dr de_int))) (dr de_int)) (da_cons (de_bin od_sub (dr de_int) (dr (de_bin od_pow (dr de_int) (dr de_int)))) (da_cons (de_bin od_pow (dr de_int) (dr de_int)) (da_cons (de_neg (de_bin od_pow (dr de_int) (dr de_int))) da_nil)))))) (len_cons (len_cons (len_cons (len_cons (len_cons (len_cons len_nil)))))) (by rw [PySem.sizeLine_eq]; decide)))) (de_bin od_mod (dr (de_bin od_div (dr (de_vs (i := 0) rfl (by first | exact .inl rfl | exact .inr (.inl rfl) | exact .inr (.inr rfl)))) (dr de_int))) (dr de_int)) (fun _ _ => rfl) (fun _ _ => rfl))) dss_nil) dss_nil) (dss_cons (ds_ret (al := []) (de_bin od_sub (dr (de_bin od_mod (dr (de_bin od_div (dr (de_vs (i := 0) rfl (by first | exact .inl rfl | exact .inr (.inl rfl) | exact .inr (.inr rfl)))) (dr de_int))) (dr (de_bin od_add (dr (de_bin od_mul (dr de_int) (dr (de_bin od_pow (dr de_int) (dr de_int))))) (dr de_int))))) (dr (de_bin od_pow (dr de_int) (dr de_int))))) dss_nil))))
abbrev N_l_holds : List Str := ["_law_n", "_law_due_here"]
theorem sc_l_holds : FnScope N_l_holds ["_law_n"] (defScope s_l_holds) := ⟨rfl, rfl, rfl, by decide +kernel, rfl, by decide +kernel, by decide +kernel⟩
theorem ok_l_holds {P : Program} {w : World} {K : PySem.W.Frag} {mg : Str → Option Value} {base : Heap} {f : Addr} {fd : FuncData} (T : Txt K mg) (F : Fun K "_law_holds" "_law_holds" s_l_holds f fd) (c_l_whole : CallOk P w K mg base 1 "_law_whole" ["_law_found", "_law_due_here"] F_l_whole) (c_held : CallOk P w K mg base 1 "held" ["n"] F_held) :
    FnOk P w K mg base (L2.CX P w) 2 f fd ["_law_n"] (spD K mg 1 F_l_holds) :=
  fnD (N := N_l_holds) (k := 1) (fb := b_l_holds) F sc_l_holds fun cdv A outer s H G E hr tk hp =>
    by have hu := Room.hu hr; exact (dss_cons (ds_set (al := []) (i := 1) sc_l_holds.nd rfl (by first | exact .inl rfl | exact .inr rfl) (de_vs (i := 0) rfl (by first | exact .inl rfl | exact .inr (.inl rfl) | exact .inr (.inr rfl)))) (dss_cons (ds_if (al := []) (dt_w (dw_or (dt_cmp (od_gt hu) (dr (de_vs (i := 0) rfl (by first | exact .inl rfl | exact .inr (.inl rfl) | exact .inr (.inr rfl)))) (dr (de_bin od_pow (dr de_int) (dr de_int))) (nomark _)) (dw_or1 (dt_cmp (od_lt hu) (dr (de_vs (i := 0) rfl (by first | exact .inl rfl | exact .inr (.inl rfl) | exact .inr (.inr rfl)))) (dr (de_neg (de_bin od_pow (dr de_int) (dr de_int)))) (nomark _))))) (dss_cons (ds_set (al := []) (i := 1) sc_l_holds.nd rfl (by first | exact .inl rfl | exact .inr rfl) (de_bin od_mul (dr (de_bin od_div (dr (de_vs (i := 0) rfl (by first | exact .inl rfl | exact .inr (.inl rfl) | exact .inr (.inr rfl)))) (dr (de_b1 c1_abs rfl T.z_abs rfl (dr (de_vs (i := 0) rfl (by first | exact .inl rfl | exact .inr (.inl rfl) | exact .inr (.inr rfl)))))))) (dr (de_bin od_pow (dr de_int) (dr de_int))))) dss_nil) dss_nil) (dss_cons (ds_ret (al := []) (de_callE c_l_whole hr rfl tk (da_cons (de_callE c_held hr rfl tk (da_cons (de_vs (i := 0) rfl (by first | exact .inl rfl | exact .inr (.inl rfl) | exact .inr (.inr rfl))) da_nil) (leq_cons leq_nil)) (da_cons (de_vs (i := 1) rfl (by first | exact .inl rfl | exact .inr (.inl rfl) | exact .inr (.inr rfl))) da_nil)) (leq_cons (leq_cons leq_nil)))) dss_nil)))
abbrev N_law : List Str := ["_law_script", "_law_row", "_law_k", "_law_x", "_law_y", "_law_n"]
theorem sc_law : FnScope N_law ["_law_script"] (defScope s_law) := ⟨rfl, rfl, rfl, by decide +kernel, rfl, by decide +kernel, by decide +kernel⟩
theorem ok_law {P : Program} {w : World} {K : PySem.W.Frag} {mg : Str → Option Value} {base : Heap} {f : Addr} {fd : FuncData} (T : Txt K mg) (F : Fun K "law" "law" s_law f fd) (c_l_whole : CallOk P w K mg base 15 "_law_whole" ["_law_found", "_law_due_here"] F_l_whole) (c_l_fine : CallOk P w K mg base 15 "_law_fine" ["_law_x", "_law_y", "_law_z"] F_l_fine) (c_l_number : CallOk P w K mg base 15 "_law_number" ["_law_n"] F_l_number) (c_l_holds : CallOk P w K mg base 15 "_law_holds" ["_law_n"] F_l_holds) :
    FnOk P w K mg base (L2.CX P w) 16 f fd ["_law_script"] (spD K mg 1 F_law) :=
  fnD (N := N_law) (k := 15) (fb := b_law) F sc_law fun cdv A outer s H G E hr tk hp =>
    by exact (dss_cons (ds_set (al := []) (i := 1) sc_law.nd rfl (by first | exact .inl rfl | exact .inr rfl) (de_bin od_add (dr (de_vs (i := 0) rfl (by first | exact .inl rfl | exact .inr (.inl rfl) | exact .inr (.inr rfl)))) (dr (de_of (df_lst (da_cons de_int (da_cons de_int da_nil)) (len_cons (len_cons len_nil)) (by rw [PySem.sizeLine_eq]; decide)))))) (dss_cons (ds_if (al := []) (dt_w (dw_or (dt_not (dt_truth (dr (de_callE c_l_whole hr rfl tk (da_cons (de_con T.c_MOST rfl) (da_cons (de_bin od_pow (dr de_int) (dr de_int)) da_nil)) (leq_cons (leq_cons leq_nil)))) (fun _ => rfl))) (dw_or (dt_not (dt_truth (dr (de_callE c_l_fine hr rfl tk (da_cons de_int (da_cons de_int (da_cons de_int da_nil))) (leq_cons (leq_cons (leq_cons leq_nil))))) (fun _ => rfl))) (dw_or1 (dt_not (dt_truth (dr (de_callE c_l_fine hr rfl tk (da_cons de_int (da_cons (de_neg de_int) (da_cons de_int da_nil))) (leq_cons (leq_cons (leq_cons leq_nil))))) (fun _ => rfl))))))) (dss_cons (ds_ret (al := []) de_bl) dss_nil) dss_nil) (dss_cons (ds_for (al := []) hp rfl (di_range1 rfl T.z_range (de_b1 c1_len rfl T.z_len rfl (dr (de_vs (i := 0) rfl (by first | exact .inl rfl | exact .inr (.inl rfl) | exact .inr (.inr rfl)))))) (dg_name (i := 2) sc_law.nd rfl (by first | exact .inl rfl | exact .inr rfl)) (fun _ => (dss_cons (ds_set (al := []) (i := 3) sc_law.nd rfl (by first | exact .inl rfl | exact .inr rfl) (de_callE c_l_number hr rfl tk (da_cons (de_ixA hr.hu1 (dr (de_vs (i := 1) rfl (by first | exact .inl rfl | exact .inr (.inl rfl) | exact .inr (.inr rfl)))) (de_vs (i := 2) rfl (by first | exact .inl rfl | exact .inr (.inl rfl) | exact .inr (.inr rfl))) (fun _ _ => rfl) (fun _ _ => rfl)) da_nil) (leq_cons leq_nil))) (dss_cons (ds_set (al := []) (i := 4) sc_law.nd rfl (by first | exact .inl rfl | exact .inr rfl) (de_callE c_l_number hr rfl tk (da_cons (de_ixA hr.hu1 (dr (de_vs (i := 1) rfl (by first | exact .inl rfl | exact .inr (.inl rfl) | exact .inr (.inr rfl)))) (de_bin od_add (dr (de_vs (i := 2) rfl (by first | exact .inl rfl | exact .inr (.inl rfl) | exact .inr (.inr rfl)))) (dr de_int)) (fun _ _ => rfl) (fun _ _ => rfl)) da_nil) (leq_cons leq_nil))) (dss_cons (ds_if (al := []) (dt_not (dt_truth (dr (de_callE c_l_fine hr rfl tk (da_cons (de_vs (i := 3) rfl (by first | exact .inl rfl | exact .inr (.inl rfl) | exact .inr (.inr rfl))) (da_cons (de_vs (i := 4) rfl (by first | exact .inl rfl | exact .inr (.inl rfl) | exact .inr (.inr rfl))) (da_cons (de_callE c_l_number hr rfl tk (da_cons (de_ixA hr.hu1 (dr (de_vs (i := 1) rfl (by first | exact .inl rfl | exact .inr (.inl rfl) | exact .inr (.inr rfl)))) (de_bin od_add (dr (de_vs (i := 2) rfl (by first | exact .inl rfl | exact .inr (.inl rfl) | exact .inr (.inr rfl)))) (dr de_int)) (fun _ _ => rfl) (fun _ _ => rfl)) da_nil) (leq_cons leq_nil)) da_nil))) (leq_cons (leq_cons (leq_cons leq_nil))))) (fun _ => rfl))) (dss_cons (ds_ret (al := []) de_bl) dss_nil) dss_nil) (dss_cons (ds_set (al := []) (i := 5) sc_law.nd rfl (by first | exact .inl rfl | exact .inr rfl) (de_bin od_sub (dr (de_bin od_mod (dr (de_ixA hr.hu1 (dr (de_vs (i := 1) rfl (by first | exact .inl rfl | exact .inr (.inl rfl) | exact .inr (.inr rfl)))) (de_vs (i := 2) rfl (by first | exact .inl rfl | exact .inr (.inl rfl) | exact .inr (.inr rfl))) (fun _ _ => rfl) (fun _ _ => rfl))) (dr (de_bin od_add (dr (de_bin od_mul (dr de_int) (dr (de_bin od_pow (dr de_int) (dr de_int))))) (dr de_int))))) (dr (de_bin od_pow (dr de_int) (dr de_int))))) (dss_cons (ds_if (al := []) (dt_w (dw_or (dt_not (dt_truth (dr (de_callE c_l_holds hr rfl tk (da_cons (de_vs (i := 5) rfl (by first | exact .inl rfl | exact .inr (.inl rfl) | exact .inr (.inr rfl))) da_nil) (leq_cons leq_nil))) (fun _ => rfl))) (dw_or (dt_not (dt_truth (dr (de_callE c_l_holds hr rfl tk (da_cons (de_bin od_add (dr (de_vs (i := 3) rfl (by first | exact .inl rfl | exact .inr (.inl rfl) | exact .inr (.inr rfl)))) (dr (de_vs (i := 4) rfl (by first | exact .inl rfl | exact .inr (.inl rfl) | exact .inr (.inr rfl))))) da_nil) (leq_cons leq_nil))) (fun _ => rfl))) (dw_or (dt_not (dt_truth (dr (de_callE c_l_holds hr rfl tk (da_cons (de_bin od_sub (dr (de_vs (i := 3) rfl (by first | exact .inl rfl | exact .inr (.inl rfl) | exact .inr (.inr rfl)))) (dr (de_vs (i := 4) rfl (by first | exact .inl rfl | exact .inr (.inl rfl) | exact .inr (.inr rfl))))) da_nil) (leq_cons leq_nil))) (fun _ => rfl))) (dw_or1 (dt_not (dt_truth (dr (de_callE c_l_holds hr rfl tk (da_cons (de_bin od_mul (dr (de_vs (i := 3) rfl (by first | exact .inl rfl | exact .inr (.inl rfl) | exact .inr (.inr rfl)))) (dr (de_vs (i := 4) rfl (by first | exact .inl rfl | exact .inr (.inl rfl) | exact .inr (.inr rfl))))) da_nil) (leq_cons leq_nil))) (fun _ => rfl)))))))) (dss_cons (ds_ret (al := []) de_bl) dss_nil) dss_nil) dss_nil))))))) (dss_cons (ds_ret (al := []) de_bl) dss_nil))))
end DLaw
namespace DLaw
open PySem PySem.Spec PyProof.Rows L2
open DL
theorem all_mk {P : Program} {w : World} {K : PySem.W.Frag} {h : Heap} {mg : Str → Option Value} {fa : Addr} (X : K.In h) (G : h.Ns mainGlobals mg) (hfa : mg "law" = some (.ref fa))
    {f1 f2 f3 f4 f5 f6 f7 f8 f9 f10 f11 f12 f13 : Addr} {od1 an1 od2 an2 od3 an3 od4 an4 od5 an5 od6 an6 od7 an7 od8 an8 od9 an9 od10 an10 od11 an11 od12 an12 od13 an13 : Option Addr} {sl1 sl2 sl3 sl4 sl5 sl6 sl7 sl8 sl9 sl10 sl11 sl12 sl13 : Array (Option Value)} {oc1 kV1 dc1 pm1 cd1 ct1 oc2 kV2 dc2 pm2 cd2 ct2 oc3 kV3 dc3 pm3 cd3 ct3 oc4 kV4 dc4 pm4 cd4 ct4 oc5 kV5 dc5 pm5 cd5 ct5 oc6 kV6 dc6 pm6 cd6 ct6 oc7 kV7 dc7 pm7 cd7 ct7 oc8 kV8 dc8 pm8 cd8 ct8 oc9 kV9 dc9 pm9 cd9 ct9 oc10 kV10 dc10 pm10 cd10 ct10 oc11 kV11 dc11 pm11 cd11 ct11 oc12 kV12 dc12 pm12 cd12 ct12 oc13 kV13 dc13 pm13 cd13 ct13 : Value}
   {tk1 : Tok}
    (a1 : PySem.W.nsIn K mainGlobals "_law_whole" = some (some (.ref f1))) (l1 : K.lookup f1 = some ⟨oc1, od1, .func (PySem.W.fnOf "_law_whole" "_law_whole" (defArgs s_l_whole) (defBody s_l_whole) (defScope s_l_whole) .none kV1 dc1 pm1 an1 cd1 ct1), sl1⟩) (c1 : PySem.W.codeIn K cd1 "_law_whole" = true) (k1 : PySem.W.keepIn K (.ref f1) = true)
    (a2 : PySem.W.nsIn K mainGlobals "_law_held" = some (some (.ref f2))) (l2 : K.lookup f2 = some ⟨oc2, od2, .func (PySem.W.fnOf "_law_held" "_law_held" (defArgs s_l_held) (defBody s_l_held) (defScope s_l_held) .none kV2 dc2 pm2 an2 cd2 ct2), sl2⟩) (c2 : PySem.W.codeIn K cd2 "_law_held" = true) (k2 : PySem.W.keepIn K (.ref f2) = true)
    (a3 : PySem.W.nsIn K mainGlobals "_law_due" = some (some (.ref f3))) (l3 : K.lookup f3 = some ⟨oc3, od3, .func (PySem.W.fnOf "_law_due" "_law_due" (defArgs s_l_due) (defBody s_l_due) (defScope s_l_due) .none kV3 dc3 pm3 an3 cd3 ct3), sl3⟩) (c3 : PySem.W.codeIn K cd3 "_law_due" = true) (k3 : PySem.W.keepIn K (.ref f3) = true)
    (a4 : PySem.W.nsIn K mainGlobals "field_at" = some (some (.ref f4))) (l4 : K.lookup f4 = some ⟨oc4, od4, .func (PySem.W.fnOf "field_at" "field_at" (defArgs s_field_at) (defBody s_field_at) (defScope s_field_at) .none kV4 dc4 pm4 an4 cd4 ct4), sl4⟩) (c4 : PySem.W.codeIn K cd4 "field_at" = true) (k4 : PySem.W.keepIn K (.ref f4) = true)
    (a5 : PySem.W.nsIn K mainGlobals "held" = some (some (.ref f5))) (l5 : K.lookup f5 = some ⟨oc5, od5, .func (PySem.W.fnOf "held" "held" (defArgs s_held) (defBody s_held) (defScope s_held) .none kV5 dc5 pm5 an5 cd5 ct5), sl5⟩) (c5 : PySem.W.codeIn K cd5 "held" = true) (k5 : PySem.W.keepIn K (.ref f5) = true)
    (a6 : PySem.W.nsIn K mainGlobals "worked" = some (some (.ref f6))) (l6 : K.lookup f6 = some ⟨oc6, od6, .func (PySem.W.fnOf "worked" "worked" (defArgs s_worked) (defBody s_worked) (defScope s_worked) .none kV6 dc6 pm6 an6 cd6 ct6), sl6⟩) (c6 : PySem.W.codeIn K cd6 "worked" = true) (k6 : PySem.W.keepIn K (.ref f6) = true)
    (a7 : PySem.W.nsIn K mainGlobals "marked" = some (some (.ref f7))) (l7 : K.lookup f7 = some ⟨oc7, od7, .func (PySem.W.fnOf "marked" "marked" (defArgs s_marked) (defBody s_marked) (defScope s_marked) .none kV7 dc7 pm7 an7 cd7 ct7), sl7⟩) (c7 : PySem.W.codeIn K cd7 "marked" = true) (k7 : PySem.W.keepIn K (.ref f7) = true)
    (a8 : PySem.W.nsIn K mainGlobals "reckoned" = some (some (.ref f8))) (l8 : K.lookup f8 = some ⟨oc8, od8, .func (PySem.W.fnOf "reckoned" "reckoned" (defArgs s_reckoned) (defBody s_reckoned) (defScope s_reckoned) .none kV8 dc8 pm8 an8 cd8 ct8), sl8⟩) (c8 : PySem.W.codeIn K cd8 "reckoned" = true) (k8 : PySem.W.keepIn K (.ref f8) = true)
    (a9 : PySem.W.nsIn K mainGlobals "worth" = some (some (.ref f9))) (l9 : K.lookup f9 = some ⟨oc9, od9, .func (PySem.W.fnOf "worth" "worth" (defArgs s_worth) (defBody s_worth) (defScope s_worth) .none kV9 dc9 pm9 an9 cd9 ct9), sl9⟩) (c9 : PySem.W.codeIn K cd9 "worth" = true) (k9 : PySem.W.keepIn K (.ref f9) = true)
    (a10 : PySem.W.nsIn K mainGlobals "_law_fine" = some (some (.ref f10))) (l10 : K.lookup f10 = some ⟨oc10, od10, .func (PySem.W.fnOf "_law_fine" "_law_fine" (defArgs s_l_fine) (defBody s_l_fine) (defScope s_l_fine) .none kV10 dc10 pm10 an10 cd10 ct10), sl10⟩) (c10 : PySem.W.codeIn K cd10 "_law_fine" = true) (k10 : PySem.W.keepIn K (.ref f10) = true)
    (a11 : PySem.W.nsIn K mainGlobals "_law_number" = some (some (.ref f11))) (l11 : K.lookup f11 = some ⟨oc11, od11, .func (PySem.W.fnOf "_law_number" "_law_number" (defArgs s_l_number) (defBody s_l_number) (defScope s_l_number) .none kV11 dc11 pm11 an11 cd11 ct11), sl11⟩) (c11 : PySem.W.codeIn K cd11 "_law_number" = true) (k11 : PySem.W.keepIn K (.ref f11) = true)
    (a12 : PySem.W.nsIn K mainGlobals "_law_holds" = some (some (.ref f12))) (l12 : K.lookup f12 = some ⟨oc12, od12, .func (PySem.W.fnOf "_law_holds" "_law_holds" (defArgs s_l_holds) (defBody s_l_holds) (defScope s_l_holds) .none kV12 dc12 pm12 an12 cd12 ct12), sl12⟩) (c12 : PySem.W.codeIn K cd12 "_law_holds" = true) (k12 : PySem.W.keepIn K (.ref f12) = true)
    (a13 : PySem.W.nsIn K mainGlobals "law" = some (some (.ref f13))) (l13 : K.lookup f13 = some ⟨oc13, od13, .func (PySem.W.fnOf "law" "law" (defArgs s_law) (defBody s_law) (defScope s_law) .none kV13 dc13 pm13 an13 cd13 ct13), sl13⟩) (c13 : PySem.W.codeIn K cd13 "law" = true) (k13 : PySem.W.keepIn K (.ref f13) = true)
    (z1 : PySem.W.nsIn K mainGlobals "isinstance" = some none)
    (z2 : PySem.W.nsIn K mainGlobals "int" = some none)
    (z3 : PySem.W.nsIn K mainGlobals "bool" = some none)
    (z4 : PySem.W.nsIn K mainGlobals "len" = some none)
    (z5 : PySem.W.nsIn K mainGlobals "min" = some none)
    (z6 : PySem.W.nsIn K mainGlobals "max" = some none)
    (z7 : PySem.W.nsIn K mainGlobals "tuple" = some none)
    (z8 : PySem.W.nsIn K mainGlobals "abs" = some none)
    (z9 : PySem.W.nsIn K mainGlobals "range" = some none)
    (kg_MOST : PySem.W.nsIn K mainGlobals "MOST" = some (some (.int 1000000000000000000 tk1)))
    : ∃ fd : FuncData, (∀ (s : Shared) (u : Value), BindsTo s fd ⟨[u], []⟩ [("_law_script", u)]) ∧ ∀ base : Heap, K.In base → base.Ns mainGlobals mg → FnOk P w K mg base (L2.CX P w) 16 fa fd ["_law_script"] (spD K mg 1 F_law) := by
  have e := hfa.symm.trans (PySem.W.mg_of X G a13)
  cases e
  have T : Txt K mg := ⟨PySem.W.mg_none_of X G z1, PySem.W.mg_none_of X G z2, PySem.W.mg_none_of X G z3, PySem.W.mg_none_of X G z4, PySem.W.mg_none_of X G z5, PySem.W.mg_none_of X G z6, PySem.W.mg_none_of X G z7, PySem.W.mg_none_of X G z8, PySem.W.mg_none_of X G z9, (Con.int.at (PySem.W.mg_of X G kg_MOST))⟩
  have F1 := fun_mk (st := s_l_whole) l1 c1 k1
  have b1 := F1.binds (ps := ["_law_found", "_law_due_here"]) fun _ _ _ _ _ _ us hl => match us, hl with | [_, _], _ => rfl
  have F2 := fun_mk (st := s_l_held) l2 c2 k2
  have b2 := F2.binds (ps := ["_law_n"]) fun _ _ _ _ _ _ us hl => match us, hl with | [_], _ => rfl
  have F3 := fun_mk (st := s_l_due) l3 c3 k3
  have b3 := F3.binds (ps := ["_law_op", "_law_x", "_law_y", "_law_z"]) fun _ _ _ _ _ _ us hl => match us, hl with | [_, _, _, _], _ => rfl
  have F4 := fun_mk (st := s_field_at) l4 c4 k4
  have b4 := F4.binds (ps := ["row", "k"]) fun _ _ _ _ _ _ us hl => match us, hl with | [_, _], _ => rfl
  have F5 := fun_mk (st := s_held) l5 c5 k5
  have b5 := F5.binds (ps := ["n"]) fun _ _ _ _ _ _ us hl => match us, hl with | [_], _ => rfl
  have F6 := fun_mk (st := s_worked) l6 c6 k6
  have b6 := F6.binds (ps := ["op", "x", "y"]) fun _ _ _ _ _ _ us hl => match us, hl with | [_, _, _], _ => rfl
  have F7 := fun_mk (st := s_marked) l7 c7 k7
  have b7 := F7.binds (ps := ["op", "x", "y"]) fun _ _ _ _ _ _ us hl => match us, hl with | [_, _, _], _ => rfl
  have F8 := fun_mk (st := s_reckoned) l8 c8 k8
  have b8 := F8.binds (ps := ["op", "parts"]) fun _ _ _ _ _ _ us hl => match us, hl with | [_, _], _ => rfl
  have F9 := fun_mk (st := s_worth) l9 c9 k9
  have b9 := F9.binds (ps := ["term", "row", "names"]) fun _ _ _ _ _ _ us hl => match us, hl with | [_, _, _], _ => rfl
  have F10 := fun_mk (st := s_l_fine) l10 c10 k10
  have b10 := F10.binds (ps := ["_law_x", "_law_y", "_law_z"]) fun _ _ _ _ _ _ us hl => match us, hl with | [_, _, _], _ => rfl
  have F11 := fun_mk (st := s_l_number) l11 c11 k11
  have b11 := F11.binds (ps := ["_law_n"]) fun _ _ _ _ _ _ us hl => match us, hl with | [_], _ => rfl
  have F12 := fun_mk (st := s_l_holds) l12 c12 k12
  have b12 := F12.binds (ps := ["_law_n"]) fun _ _ _ _ _ _ us hl => match us, hl with | [_], _ => rfl
  have F13 := fun_mk (st := s_law) l13 c13 k13
  have b13 := F13.binds (ps := ["_law_script"]) fun _ _ _ _ _ _ us hl => match us, hl with | [_], _ => rfl
  refine ⟨PySem.W.fnOf "law" "law" (defArgs s_law) (defBody s_law) (defScope s_law) .none kV13 dc13 pm13 an13 cd13 ct13, fun s v => .of_eq rfl, fun base _ _ => ?_⟩
  have h_l_whole : CallOk P w K mg base 1 "_law_whole" ["_law_found", "_law_due_here"] F_l_whole := ⟨f1, _, PySem.W.mg_of X G a1, k1, b1, ok_l_whole T F1 ⟩
  have h_l_held : CallOk P w K mg base 1 "_law_held" ["_law_n"] F_l_held := ⟨f2, _, PySem.W.mg_of X G a2, k2, b2, ok_l_held T F2 ⟩
  have h_l_due : CallOk P w K mg base 2 "_law_due" ["_law_op", "_law_x", "_law_y", "_law_z"] F_l_due := ⟨f3, _, PySem.W.mg_of X G a3, k3, b3, ok_l_due T F3 (h_l_held.up (by decide))⟩
  have h_field_at : CallOk P w K mg base 1 "field_at" ["row", "k"] F_field_at := ⟨f4, _, PySem.W.mg_of X G a4, k4, b4, ok_field_at T F4 ⟩
  have h_held : CallOk P w K mg base 1 "held" ["n"] F_held := ⟨f5, _, PySem.W.mg_of X G a5, k5, b5, ok_held T F5 ⟩
  have h_worked : CallOk P w K mg base 1 "worked" ["op", "x", "y"] F_worked := ⟨f6, _, PySem.W.mg_of X G a6, k6, b6, ok_worked T F6 ⟩
  have h_marked : CallOk P w K mg base 1 "marked" ["op", "x", "y"] F_marked := ⟨f7, _, PySem.W.mg_of X G a7, k7, b7, ok_marked T F7 ⟩
  have h_reckoned : CallOk P w K mg base 2 "reckoned" ["op", "parts"] F_reckoned := ⟨f8, _, PySem.W.mg_of X G a8, k8, b8, ok_reckoned T F8 (h_held.up (by decide)) (h_worked.up (by decide)) (h_marked.up (by decide))⟩
  have r_worth : ∀ n, CallOk P w K mg base (2 + n) "worth" ["term", "row", "names"] (R_worth n) := fun n => by
    induction n with
    | zero => exact ⟨f9, _, PySem.W.mg_of X G a9, k9, b9, fn_bad fun _ => rfl⟩
    | succ n ih => exact ⟨f9, _, PySem.W.mg_of X G a9, k9, b9, ok_worth T F9 (h_field_at.up (k := 2 + n) (Nat.le_trans (by decide : 1 ≤ 2) (Nat.le_add_right 2 n))) (h_reckoned.up (k := 2 + n) (Nat.le_trans (by decide : 2 ≤ 2) (Nat.le_add_right 2 n))) ih⟩
  have h_worth : CallOk P w K mg base 14 "worth" ["term", "row", "names"] F_worth := r_worth 12
  have h_l_fine : CallOk P w K mg base 15 "_law_fine" ["_law_x", "_law_y", "_law_z"] F_l_fine := ⟨f10, _, PySem.W.mg_of X G a10, k10, b10, ok_l_fine T F10 (h_l_due.up (by decide)) (h_l_whole.up (by decide)) (h_worth.up (by decide))⟩
  have h_l_number : CallOk P w K mg base 1 "_law_number" ["_law_n"] F_l_number := ⟨f11, _, PySem.W.mg_of X G a11, k11, b11, ok_l_number T F11 ⟩
  have h_l_holds : CallOk P w K mg base 2 "_law_holds" ["_law_n"] F_l_holds := ⟨f12, _, PySem.W.mg_of X G a12, k12, b12, ok_l_holds T F12 (h_l_whole.up (by decide)) (h_held.up (by decide))⟩
  exact ok_law T F13 (h_l_whole.up (by decide)) (h_l_fine.up (by decide)) (h_l_number.up (by decide)) (h_l_holds.up (by decide))
end DLaw
open PySem PySem.W PyProof.Rows
set_option maxRecDepth 100000 in
set_option maxHeartbeats 0 in
theorem PySem.Challenge.cw_blurdesk_k10_ops_on_numbers_holds : PySem.Challenge.rw_blurdesk_k10_ops_on_numbers.Holds := by
  w_on; o_law; k_head; (case hw => w_witness2)
  k_fill
  refine DL.endW (l := PySem.Challenge.rw_blurdesk_k10_ops_on_numbers) (k := 16) (F := DLaw.F_law) (x := "_law_script") rfl rfl (by decide) (fun w h Y => PySem.W.kIn_of Y) ?F DLaw.law_holds
  case F =>
    intro w mg fa h KX G hmg
    refine' DLaw.all_mk KX G hmg ?a1 ?l1 ?c1 ?k1 ?a2 ?l2 ?c2 ?k2 ?a3 ?l3 ?c3 ?k3 ?a4 ?l4 ?c4 ?k4 ?a5 ?l5 ?c5 ?k5 ?a6 ?l6 ?c6 ?k6 ?a7 ?l7 ?c7 ?k7 ?a8 ?l8 ?c8 ?k8 ?a9 ?l9 ?c9 ?k9 ?a10 ?l10 ?c10 ?k10 ?a11 ?l11 ?c11 ?k11 ?a12 ?l12 ?c12 ?k12 ?a13 ?l13 ?c13 ?k13 ?z1 ?z2 ?z3 ?z4 ?z5 ?z6 ?z7 ?z8 ?z9 ?kg_MOST
    (case a1 => k_is); (case l1 => k_is); (case c1 => k_is); (case k1 => k_is); (case a2 => k_is); (case l2 => k_is)
    (case c2 => k_is); (case k2 => k_is); (case a3 => k_is); (case l3 => k_is); (case c3 => k_is); (case k3 => k_is)
    (case a4 => k_is); (case l4 => k_is); (case c4 => k_is); (case k4 => k_is); (case a5 => k_is); (case l5 => k_is)
    (case c5 => k_is); (case k5 => k_is); (case a6 => k_is); (case l6 => k_is); (case c6 => k_is); (case k6 => k_is)
    (case a7 => k_is); (case l7 => k_is); (case c7 => k_is); (case k7 => k_is); (case a8 => k_is); (case l8 => k_is)
    (case c8 => k_is); (case k8 => k_is); (case a9 => k_is); (case l9 => k_is); (case c9 => k_is); (case k9 => k_is)
    (case a10 => k_is); (case l10 => k_is); (case c10 => k_is); (case k10 => k_is); (case a11 => k_is); (case l11 => k_is)
    (case c11 => k_is); (case k11 => k_is); (case a12 => k_is); (case l12 => k_is); (case c12 => k_is); (case k12 => k_is)
    (case a13 => k_is); (case l13 => k_is); (case c13 => k_is); (case k13 => k_is); (case z1 => k_is); (case z2 => k_is)
    (case z3 => k_is); (case z4 => k_is); (case z5 => k_is); (case z6 => k_is); (case z7 => k_is); (case z8 => k_is)
    (case z9 => k_is); (case kg_MOST => k_is)
#print axioms PySem.Challenge.cw_blurdesk_k10_ops_on_numbers_holds
