import PyProof.Rows.All
import Wide.All
import OpenK.AllK
import Wide.FinOn
import HandS.ForExc
import HandS.ForMost
import HandS.Wide
import HandS.ExcOwn
import HandS.TupAny
import HandS.TupMul
import KE.DataCmp
import KE.SortData
import HandS.TupLen
import HandS.IsInst
import HandS.EndBits
import HandS.Zip
import HandS.ExcIs
import KE.DataMinMax
import KE.DataFind
import HandS.Conv
import HandS.Deep
import HandS.Style
import HandS.Text
import HandS.SetFor
import KE.GoesEnum
import HandS.Iter
import HandS.RevTup
import HandS.Rev
import HandS.DictComp
import HandS.Set
import HandS.TupSets
import HandS.SetKeys
import HandS.SortKw
import HandS.DictSubView
import KE.KDictWalk
import KE.KEqDict
import PyProof.DictUpdate
import PyProof.FactsAll.dict_4
import KE.KDictPairs
import KE.KIndexOf
import PyProof.SeqIndex
import PyProof.FactsAll.tuple_0
import PyProof.FactsAll.tuple_2
import HandS.FStr
import PyProof.SumAny
import HandS.TryMany
import HandS.ExcField
import HandS.ExcInit
import PyProof.StrOps2
import HandS.Defaults
import HandS.CallSlots
import HandS.ExcValue
import HandS.HeadHook3
import PySem.Challenge.RW_blurdesk_k04_refusals_apart
set_option Elab.async false
set_option linter.all false
set_option maxRecDepth 100000
set_option maxHeartbeats 4000000
/-! Plain data over the hand layer: values without addresses; lists and dicts by value, changed in place only through the one name that holds them. -/
namespace DL
open PySem PySem.Spec PyProof.Rows L2

/-- a value, whole -/
inductive D where
  | non
  | bl (b : Bool)
  | int (i : Int)
  | str (x : Str)
  | obj (v : V)
  | tup (xs : List D)
  | con (xs : List D)
  | lst (xs : List D)
  | dct (t : Bool) (kvs : List (D × D))
  | err (c : String) (kvs : List (D × D))
  | exn (a d : Addr) (kvs : List (D × D))

/-- what comes of a reckoning -/
inductive Res (α : Type) where
  | ok (a : α)
  | exc (c : String) (fs : List (D × D))
  | bad

def Res.bind {α β : Type} (r : Res α) (f : α → Res β) : Res β := match r with
  | .ok a => f a
  | .exc c fs => .exc c fs
  | .bad => .bad
@[simp] theorem Res.bind_ok {α β : Type} (a : α) (f : α → Res β) : (Res.ok a).bind f = f a := Eq.trans rfl rfl
@[simp] theorem Res.bind_exc {α β : Type} (c : String) (fs : List (D × D)) (f : α → Res β) : (Res.exc c fs : Res α).bind f = .exc c fs := Eq.trans rfl rfl
@[simp] theorem Res.bind_bad {α β : Type} (f : α → Res β) : (Res.bad : Res α).bind f = .bad := Eq.trans rfl rfl

/-- keys of dicts -/
def keyD : Key → D
  | .inl i => .int i
  | .inr x => .str x
def keyT (k : List Key) : D := .tup (k.map keyD)

/-- a tuple without a dict of its own -/
def PlT (K : PySem.W.Frag) (G : Hp) (a : Addr) (xs : List V) : Prop :=
  (∃ o, G a = some (.frz o (.tup xs)) ∧ o.dict = none) ∨
    ∃ (o : Obj) (its : Array Value) (n : Nat), K.lookup a = some o ∧ o.cls = .type "tuple" ∧ o.dict = none ∧ o.data = .seq its n ∧ its.size ≤ sizeLine ∧ Vals xs its.toList
theorem PlT.sqt {K : PySem.W.Frag} {G : Hp} {a : Addr} {xs : List V} (h : PlT K G a xs) : SqT K G a xs := by
  rcases h with ⟨o, h, _⟩ | ⟨o, its, n, h1, h2, _, h3, h4, h5⟩
  · exact .inl (.inr ⟨o, h⟩)
  · exact .inr ⟨o, its, n, h1, h2, h3, h4, h5⟩

/-- what stands at a: an error object of the class at C, its dict d -/
def ErrH (C : Addr) (d : Option Addr) (a : Addr) (o : HO) : Prop := ∀ (P : Program) (w : World) (H : Hp) (h : Heap), ObjOk P w H h a o → ∃ (oe : Obj) (vs : Array Value), h.get? a = some oe ∧ Zc (.ref C) d oe ∧ oe.data = .fields vs
/-- .. and an error's dict -/
def XdH (ps : List (Str × V)) (d : Addr) (o : HO) : Prop := ∀ (P : Program) (w : World) (H : Hp) (h : Heap), ObjOk P w H h d o → ∃ mA, h.Ns1 d mA ∧ ∀ f, RelO (ps.lookup f) (mA f)
mutual
/-- the value v is the data d, over the heap's part G -/
def Rep (K : PySem.W.Frag) (G : Hp) : D → V → Prop
  | .non, v => v = .non
  | .bl b, v => v = .bl b
  | .int i, v => v = .int i
  | .str x, v => v = .str x
  | .obj u, v => v = u
  | .tup ds, v => ∃ a vs, v = .ref a ∧ G a = some (.tup vs) ∧ RepL K G ds vs
  | .con ds, v => ∃ a vs, v = .ref a ∧ PlT K G a vs ∧ RepL K G ds vs
  | .lst ds, v => ∃ a vs, v = .ref a ∧ SqL K G a vs ∧ RepL K G ds vs
  | .dct t kvs, v => ∃ a, v = .ref a ∧ ((t = false ∧ ∃ od ps, G a = some (.frz od (.dK ps)) ∧ kvs.map (·.1) = ps.map (fun p => keyD p.1) ∧ RepV K G kvs (ps.map (·.2))) ∨
      (t = true ∧ ∃ od ps, G a = some (.frz od (.dT ps)) ∧ kvs.map (·.1) = ps.map (fun p => keyT p.1) ∧ RepV K G kvs (ps.map (·.2))))
  | .err c kvs, v => ∃ a C, v = .ref a ∧ PySem.W.nsIn K mainGlobals (Str.ofString c) = some (some (.ref C)) ∧ ((kvs = [] ∧ ∃ o, G a = some o ∧ ErrH C none a o) ∨
      ∃ dd ps o o2, G a = some o ∧ ErrH C (some dd) a o ∧ G dd = some o2 ∧ XdH ps dd o2 ∧ kvs.map (·.1) = ps.map (fun p => D.str p.1) ∧ RepV K G kvs (ps.map (·.2)))
  | .exn a d kvs, v => v = .ref a ∧ ∃ ps, G d = some (.xd ps) ∧ kvs.map (·.1) = ps.map (fun p => D.str p.1) ∧ RepV K G kvs (ps.map (·.2))
def RepL (K : PySem.W.Frag) (G : Hp) : List D → List V → Prop
  | [], vs => vs = []
  | d :: ds, vs => ∃ v r, vs = v :: r ∧ Rep K G d v ∧ RepL K G ds r
def RepV (K : PySem.W.Frag) (G : Hp) : List (D × D) → List V → Prop
  | [], vs => vs = []
  | (_, d) :: r, vs => ∃ v r', vs = v :: r' ∧ Rep K G d v ∧ RepV K G r r'
end

/-- the part G lies in H -/
def Sub (G H : Hp) : Prop := ∀ b o, G b = some o → H b = some o
theorem Sub.refl (H : Hp) : Sub H H := fun _ _ e => e
theorem Sub.trans {A B C : Hp} (h : Sub A B) (k : Sub B C) : Sub A C := fun b o e => k b o (h b o e)
theorem Sub.rd {G H : Hp} (h : Sub G H) {a : Addr} {u : HO} (r : Rd G a u) : Rd H a u := by
  rcases r with r | ⟨o, r⟩
  · exact .inl (h _ _ r)
  · exact .inr ⟨o, h _ _ r⟩
theorem Sub.sql {K : PySem.W.Frag} {G H : Hp} (h : Sub G H) {a : Addr} {xs : List V} (r : SqL K G a xs) : SqL K H a xs := by
  rcases r with r | r
  · exact .inl (h.rd r)
  · exact .inr r
theorem Sub.sqt {K : PySem.W.Frag} {G H : Hp} (h : Sub G H) {a : Addr} {xs : List V} (r : SqT K G a xs) : SqT K H a xs := by
  rcases r with r | r
  · exact .inl (h.rd r)
  · exact .inr r
theorem Sub.plt {K : PySem.W.Frag} {G H : Hp} (h : Sub G H) {a : Addr} {xs : List V} (r : PlT K G a xs) : PlT K H a xs := by
  rcases r with ⟨o, r, d⟩ | r
  · exact .inl ⟨o, h _ _ r, d⟩
  · exact .inr r
theorem Sub.pt {K : PySem.W.Frag} {G H : Hp} (h : Sub G H) {a : Addr} {xs : List V} (r : G a = some (.tup xs)) : SqT K H a xs := SqT.of (h a _ r)
theorem Sub.upd {H : Hp} {a : Addr} {o : HO} (h : H a = none) : Sub H (upd H a o) := fun b u e => by
  rw [upd_ne (ne_of_none e h)]; exact e
theorem Sub.free {G H : Hp} (h : Sub G H) {a : Addr} (e : H a = none) : G a = none := by
  cases q : G a with
  | none => rfl
  | some o => rw [h _ _ q] at e; cases e

mutual
theorem Rep.mono {K : PySem.W.Frag} {G H : Hp} (h : Sub G H) : ∀ {d : D} {v : V}, Rep K G d v → Rep K H d v
  | .non, _, e => e
  | .bl _, _, e => e
  | .int _, _, e => e
  | .str _, _, e => e
  | .obj _, _, e => e
  | .tup _, _, ⟨a, vs, e, s, r⟩ => ⟨a, vs, e, h a _ s, RepL.mono h r⟩
  | .con _, _, ⟨a, vs, e, s, r⟩ => ⟨a, vs, e, h.plt s, RepL.mono h r⟩
  | .lst _, _, ⟨a, vs, e, s, r⟩ => ⟨a, vs, e, h.sql s, RepL.mono h r⟩
  | .dct _ _, _, ⟨a, e, .inl ⟨t0, od, ps, s, k, r⟩⟩ => ⟨a, e, .inl ⟨t0, od, ps, h a _ s, k, RepV.mono h r⟩⟩
  | .dct _ _, _, ⟨a, e, .inr ⟨t0, od, ps, s, k, r⟩⟩ => ⟨a, e, .inr ⟨t0, od, ps, h a _ s, k, RepV.mono h r⟩⟩
  | .exn _ _ _, _, ⟨e, ps, s, k, r⟩ => ⟨e, ps, h _ _ s, k, RepV.mono h r⟩
  | .err _ _, _, ⟨a, C, e, n, .inl ⟨k, o, s, z⟩⟩ => ⟨a, C, e, n, .inl ⟨k, o, h a _ s, z⟩⟩
  | .err _ _, _, ⟨a, C, e, n, .inr ⟨dd, ps, o, o2, s, z, s2, z2, k, r⟩⟩ => ⟨a, C, e, n, .inr ⟨dd, ps, o, o2, h a _ s, z, h dd _ s2, z2, k, RepV.mono h r⟩⟩
theorem RepL.mono {K : PySem.W.Frag} {G H : Hp} (h : Sub G H) : ∀ {ds : List D} {vs : List V}, RepL K G ds vs → RepL K H ds vs
  | [], _, e => e
  | _ :: _, _, ⟨v, r, e, x, y⟩ => ⟨v, r, e, Rep.mono h x, RepL.mono h y⟩
theorem RepV.mono {K : PySem.W.Frag} {G H : Hp} (h : Sub G H) : ∀ {ds : List (D × D)} {vs : List V}, RepV K G ds vs → RepV K H ds vs
  | [], _, e => e
  | (_, _) :: _, _, ⟨v, r, e, x, y⟩ => ⟨v, r, e, Rep.mono h x, RepV.mono h y⟩
end

section
variable {K : PySem.W.Frag} {G : Hp}
theorem RepL.nil : RepL K G [] [] := rfl
theorem RepL.cons {d : D} {v : V} {ds : List D} {vs : List V} (h : Rep K G d v) (t : RepL K G ds vs) : RepL K G (d :: ds) (v :: vs) := ⟨v, vs, rfl, h, t⟩
theorem RepL.length : ∀ {ds : List D} {vs : List V}, RepL K G ds vs → vs.length = ds.length
  | [], _, e => by rw [show _ = [] from e]; rfl
  | _ :: _, _, ⟨v, r, e, x, y⟩ => by rw [e, List.length_cons, List.length_cons, RepL.length y]
theorem RepL.get : ∀ {ds : List D} {vs : List V} {i : Nat} {d : D}, RepL K G ds vs → ds[i]? = some d → ∃ v, vs[i]? = some v ∧ Rep K G d v
  | _ :: _, _, 0, _, ⟨v, r, e, x, y⟩, h => by cases h; exact ⟨v, by rw [e]; rfl, x⟩
  | _ :: _, _, i + 1, d, ⟨v, r, e, x, y⟩, h => by
    obtain ⟨w, h1, h2⟩ := RepL.get (i := i) (d := d) y (by simpa using h)
    exact ⟨w, by rw [e]; simpa using h1, h2⟩
theorem RepL.append : ∀ {ds es : List D} {vs ws : List V}, RepL K G ds vs → RepL K G es ws → RepL K G (ds ++ es) (vs ++ ws)
  | [], _, _, _, e, t => by rw [show _ = [] from e]; exact t
  | _ :: _, _, _, _, ⟨v, r, e, x, y⟩, t => by rw [e]; exact ⟨v, _, rfl, x, RepL.append y t⟩
theorem RepL.drop : ∀ {ds : List D} {vs : List V} (n : Nat), RepL K G ds vs → RepL K G (ds.drop n) (vs.drop n)
  | _, _, 0, h => h
  | [], _, n + 1, e => by rw [show _ = [] from e]; rfl
  | _ :: _, _, n + 1, ⟨v, r, e, x, y⟩ => by rw [e]; exact RepL.drop n y
theorem RepL.take : ∀ {ds : List D} {vs : List V} (n : Nat), RepL K G ds vs → RepL K G (ds.take n) (vs.take n)
  | _, _, 0, h => rfl
  | [], _, n + 1, e => by rw [show _ = [] from e]; rfl
  | _ :: _, _, n + 1, ⟨v, r, e, x, y⟩ => by rw [e]; exact ⟨v, _, rfl, x, RepL.take n y⟩
theorem RepL.set {d : D} {v : V} (h : Rep K G d v) : ∀ {ds : List D} {vs : List V} (n : Nat), RepL K G ds vs → RepL K G (ds.set n d) (vs.set n v)
  | [], _, n, e => by rw [show _ = [] from e]; rfl
  | _ :: _, _, 0, ⟨w, r, e, x, y⟩ => by rw [e]; exact ⟨v, r, rfl, h, y⟩
  | _ :: _, _, n + 1, ⟨w, r, e, x, y⟩ => by rw [e]; exact ⟨w, _, rfl, x, RepL.set h n y⟩
theorem RepL.reverse : ∀ {ds : List D} {vs : List V}, RepL K G ds vs → RepL K G ds.reverse vs.reverse
  | [], _, e => by rw [show _ = [] from e]; rfl
  | _ :: _, _, ⟨w, r, e, x, y⟩ => by rw [e, List.reverse_cons, List.reverse_cons]; exact RepL.append (RepL.reverse y) ⟨w, [], rfl, x, rfl⟩
theorem RepL.ints : ∀ {ns : List Int} {vs : List V}, RepL K G (ns.map D.int) vs → vs = ns.map V.int
  | [], _, e => e
  | _ :: _, _, ⟨v, r, e, x, y⟩ => by rw [e, show v = _ from x, RepL.ints y]; rfl
theorem RepL.of_ints : ∀ (ns : List Int), RepL K G (ns.map D.int) (ns.map V.int)
  | [] => rfl
  | n :: ns => ⟨_, _, rfl, rfl, RepL.of_ints ns⟩
theorem RepL.bls : ∀ {ns : List Bool} {vs : List V}, RepL K G (ns.map D.bl) vs → vs = ns.map V.bl
  | [], _, e => e
  | _ :: _, _, ⟨v, r, e, x, y⟩ => by rw [e, show v = _ from x, RepL.bls y]; rfl
theorem Rep.tup {a : Addr} {ds : List D} {vs : List V} (h : G a = some (.tup vs)) (r : RepL K G ds vs) : Rep K G (.tup ds) (.ref a) := ⟨a, vs, rfl, h, r⟩
theorem Rep.lst {a : Addr} {ds : List D} {vs : List V} (h : SqL K G a vs) (r : RepL K G ds vs) : Rep K G (.lst ds) (.ref a) := ⟨a, vs, rfl, h, r⟩
end

def D.isDct : D → Bool
  | .dct _ _ => true
  | _ => false
/-- a value whose outer list or dict is read in H, its items in G -/
def RepC (K : PySem.W.Frag) (H G : Hp) : D → V → Prop
  | .lst ds, v => ∃ a vs, v = .ref a ∧ SqL K H a vs ∧ RepL K G ds vs
  | .dct t kvs, v => ∃ a, v = .ref a ∧ ((t = false ∧ ∃ ps, Rd H a (.dK ps) ∧ kvs.map (·.1) = ps.map (fun p => keyD p.1) ∧ RepV K G kvs (ps.map (·.2))) ∨
      (t = true ∧ ∃ ps, Rd H a (.dT ps) ∧ kvs.map (·.1) = ps.map (fun p => keyT p.1) ∧ RepV K G kvs (ps.map (·.2))))
  | d, v => Rep K G d v
theorem Rep.c {K : PySem.W.Frag} {G H : Hp} (h : Sub G H) : ∀ {d : D} {v : V}, Rep K G d v → RepC K H G d v
  | .non, _, e => e
  | .bl _, _, e => e
  | .int _, _, e => e
  | .str _, _, e => e
  | .obj _, _, e => e
  | .tup _, _, e => e
  | .con _, _, e => e
  | .lst _, _, ⟨a, vs, e, s, r⟩ => ⟨a, vs, e, h.sql s, r⟩
  | .dct _ _, _, ⟨a, e, .inl ⟨t0, od, ps, s, k, r⟩⟩ => ⟨a, e, .inl ⟨t0, ps, .inr ⟨od, h a _ s⟩, k, r⟩⟩
  | .dct _ _, _, ⟨a, e, .inr ⟨t0, od, ps, s, k, r⟩⟩ => ⟨a, e, .inr ⟨t0, ps, .inr ⟨od, h a _ s⟩, k, r⟩⟩
  | .err _ _, _, e => e
  | .exn _ _ _, _, e => e
theorem RepC.all {K : PySem.W.Frag} {G H : Hp} (h : Sub G H) : ∀ {d : D} {v : V}, RepC K H G d v → d.isDct = false → Rep K H d v
  | .non, _, e, _ => e
  | .bl _, _, e, _ => e
  | .int _, _, e, _ => e
  | .str _, _, e, _ => e
  | .obj _, _, e, _ => e
  | .tup _, _, e, _ => Rep.mono h e
  | .con _, _, e, _ => Rep.mono h e
  | .lst _, _, ⟨a, vs, e, s, r⟩, _ => ⟨a, vs, e, s, RepL.mono h r⟩
  | .dct _ _, _, _, n => by cases n
  | .err _ _, _, e, _ => Rep.mono h e
  | .exn _ _ _, _, e, _ => Rep.mono h e
theorem RepC.mono {K : PySem.W.Frag} {G H G' H' : Hp} (h : Sub H H') (g : Sub G G') : ∀ {d : D} {v : V}, RepC K H G d v → RepC K H' G' d v
  | .non, _, e => e
  | .bl _, _, e => e
  | .int _, _, e => e
  | .str _, _, e => e
  | .obj _, _, e => e
  | .tup _, _, e => Rep.mono g e
  | .con _, _, e => Rep.mono g e
  | .lst _, _, ⟨a, vs, e, s, r⟩ => ⟨a, vs, e, h.sql s, RepL.mono g r⟩
  | .dct _ _, _, ⟨a, e, .inl ⟨t0, ps, s, k, r⟩⟩ => ⟨a, e, .inl ⟨t0, ps, h.rd s, k, RepV.mono g r⟩⟩
  | .dct _ _, _, ⟨a, e, .inr ⟨t0, ps, s, k, r⟩⟩ => ⟨a, e, .inr ⟨t0, ps, h.rd s, k, RepV.mono g r⟩⟩
  | .err _ _, _, e => Rep.mono g e
  | .exn _ _ _, _, e => Rep.mono g e

/-- at a stands the list or dict d, that can be changed; its items in G -/
def OwnC (K : PySem.W.Frag) (H G : Hp) : D → Addr → Prop
  | .lst ds, a => ∃ vs, H a = some (.lst vs) ∧ RepL K G ds vs
  | .dct t kvs, a => (t = false ∧ ∃ ps, H a = some (.dK ps) ∧ kvs.map (·.1) = ps.map (fun p => keyD p.1) ∧ RepV K G kvs (ps.map (·.2))) ∨
      (t = true ∧ ∃ ps, H a = some (.dT ps) ∧ kvs.map (·.1) = ps.map (fun p => keyT p.1) ∧ RepV K G kvs (ps.map (·.2)))
  | _, _ => False
theorem OwnC.c {K : PySem.W.Frag} {H G : Hp} {d : D} {a : Addr} (h : OwnC K H G d a) : RepC K H G d (.ref a) := by
  cases d with
  | lst ds => obtain ⟨vs, e, r⟩ := h; exact ⟨a, vs, rfl, SqL.of e, r⟩
  | dct t kvs =>
    rcases h with ⟨t0, ps, e, k, r⟩ | ⟨t0, ps, e, k, r⟩
    · exact ⟨a, rfl, .inl ⟨t0, ps, .inl e, k, r⟩⟩
    · exact ⟨a, rfl, .inr ⟨t0, ps, .inl e, k, r⟩⟩
  | _ => exact h.elim
theorem OwnC.is {K : PySem.W.Frag} {H G : Hp} {d : D} {a : Addr} (h : OwnC K H G d a) : H a ≠ none := by
  cases d with
  | lst ds => obtain ⟨vs, e, r⟩ := h; rw [e]; simp
  | dct t kvs => rcases h with ⟨t0, ps, e, k, r⟩ | ⟨t0, ps, e, k, r⟩ <;> rw [e] <;> simp
  | _ => exact h.elim
theorem OwnC.mono' {K : PySem.W.Frag} {H H' G G' : Hp} {d : D} {a : Addr} (h : OwnC K H G d a) (e' : ∀ o, H a = some o → H' a = some o) (sg : Sub G G') : OwnC K H' G' d a := by
  cases d with
  | lst ds => obtain ⟨vs, e, r⟩ := h; exact ⟨vs, e' _ e, r.mono sg⟩
  | dct t kvs =>
    rcases h with ⟨t0, ps, e, k, r⟩ | ⟨t0, ps, e, k, r⟩
    · exact .inl ⟨t0, ps, e' _ e, k, r.mono sg⟩
    · exact .inr ⟨t0, ps, e' _ e, k, r.mono sg⟩
  | _ => exact h.elim
theorem OwnC.mono {K : PySem.W.Frag} {H H' G G' : Hp} {d : D} {a : Addr} (h : OwnC K H G d a) (sh : Sub H H') (sg : Sub G G') : OwnC K H' G' d a := h.mono' (fun o => sh a o) sg
theorem OwnC.put {K : PySem.W.Frag} {H G G' : Hp} {d : D} {a : Addr} (h : OwnC K H G d a) (nd : d.isDct = false) (sg : Sub G G') (e' : G' a = H a) : Rep K G' d (.ref a) := by
  cases d with
  | lst ds => obtain ⟨vs, e, r⟩ := h; exact ⟨a, vs, rfl, SqL.of (e'.trans e), r.mono sg⟩
  | dct t kvs => cases nd
  | _ => exact h.elim
/-- a dict that is locked is all men's -/
theorem OwnC.lock {K : PySem.W.Frag} {H G G' : Hp} {d : D} {a : Addr} (h : OwnC K H G d a) (nd : d.isDct = true) (sg : Sub G G') : ∃ u, H a = some u ∧ Mut (some u) ∧ ∀ od, G' a = some (.frz od u) → Rep K G' d (.ref a) := by
  cases d with
  | dct t kvs =>
    rcases h with ⟨t0, ps, e, k, r⟩ | ⟨t0, ps, e, k, r⟩
    · exact ⟨_, e, trivial, fun od q => ⟨a, rfl, .inl ⟨t0, od, ps, q, k, r.mono sg⟩⟩⟩
    · exact ⟨_, e, trivial, fun od q => ⟨a, rfl, .inr ⟨t0, od, ps, q, k, r.mono sg⟩⟩⟩
  | _ => cases nd
/-- things are locked, then P -/
inductive LockT (P : Hp → Prop) : Hp → Prop where
  | here {H : Hp} (h : P H) : LockT P H
  | lock {H : Hp} {d : Addr} {u : HO} (h : H d = some u) (mu : Mut (some u)) (k : ∀ od, LockT P (upd H d (.frz od u))) : LockT P H
theorem LockT.imp {P Q : Hp → Prop} {H : Hp} (h : LockT P H) (f : ∀ H, P H → Q H) : LockT Q H := by
  induction h with
  | here h => exact .here (f _ h)
  | lock h mu _ ih => exact .lock h mu ih
theorem LockT.bind {P Q : Hp → Prop} {H : Hp} (h : LockT P H) (f : ∀ H, P H → LockT Q H) : LockT Q H := by
  induction h with
  | here h => exact f _ h
  | lock h mu _ ih => exact .lock h mu ih
theorem LockT.inv {X : Cx} {pins : List (Addr × Obj)} {σ : L2.St} {s : Shared} {P : Hp → Prop} {H : Hp} (h : LockT P H) (I : Inv X pins σ H s) : ∃ H', Inv X pins σ H' s ∧ P H' := by
  induction h with
  | here h => exact ⟨_, I, h⟩
  | lock h mu _ ih =>
    obtain ⟨od, I1⟩ := I.lock h mu
    exact ih od I1
theorem _root_.L2.PE.lk {X : Cx} {e : Expr} {t t' : TE} (h : PE X e t) (f : ∀ σ H Q, t' σ H Q → LockT (fun H => t σ H Q) H) : PE X e t' := ⟨fun pins s σ H Q I q => by
  obtain ⟨H', I', q'⟩ := (f σ H Q q).inv I
  exact h.run pins s σ H' Q I' q'⟩
theorem _root_.L2.PE.lkP {X : Cx} {e : Expr} {t t' : TE} (h : PE X e t) (f : ∀ σ H Q, t' σ H Q → t σ H fun v H => LockT (Q v) H) : PE X e t' := ⟨fun pins s σ H Q I q =>
  thn (h.run pins s σ H _ I (f σ H Q q)) fun v s1 ⟨x, H1, I1, r, q⟩ => by
    obtain ⟨H2, I2, q2⟩ := q.inv I1
    exact ⟨x, H2, I2, r, q2⟩⟩
theorem _root_.L2.PS.lk {X : Cx} {e : Stmt} {t t' : TS} (h : PS X e t) (f : ∀ D σ H, t' D σ H → LockT (t D σ) H) : PS X e t' := ⟨fun pins s σ H D I q => by
  obtain ⟨H', I', q'⟩ := (f D σ H q).inv I
  exact h.run pins s σ H' D I' q'⟩
theorem _root_.L2.PSs.lk {X : Cx} {e : List Stmt} {t t' : TS} (h : PSs X e t) (f : ∀ D σ H, t' D σ H → LockT (t D σ) H) : PSs X e t' := ⟨fun pins s σ H D I q => by
  obtain ⟨H', I', q'⟩ := (f D σ H q).inv I
  exact h.run pins s σ H' D I' q'⟩
/-- .. what is given back is locked -/
theorem _root_.L2.PSs.lkR {X : Cx} {e : List Stmt} {t t' : TS} (h : PSs X e t) (f : ∀ D σ H, t' D σ H → t { D with rt := fun v H => LockT (D.rt v) H } σ H) : PSs X e t' := ⟨fun pins s σ H D I q =>
  thn (h.run pins s σ H _ I (f D σ H q)) fun fl s1 q => by
    cases fl with
    | next => exact q
    | brk => exact q
    | cont => exact q
    | ret v =>
      obtain ⟨x, σ', H', I2, r, q⟩ := q
      obtain ⟨H2, I3, q2⟩ := q.inv I2
      exact ⟨x, σ', H2, I3, r, q2⟩⟩

/-- where nothing stood, or a tuple -/
def Fr1 (H : Hp) (b : Addr) : Prop := H b = none ∨ ∃ vs, H b = some (.tup vs)
theorem Fr1.back {H H1 : Hp} {b : Addr} (s : Sub H H1) (h : Fr1 H1 b) : Fr1 H b := by
  cases q : H b with
  | none => exact .inl q
  | some o =>
    have := s _ _ q
    rcases h with h | ⟨vs, h⟩
    · rw [h] at this; cases this
    · rw [h] at this; cases this; exact .inr ⟨vs, q⟩
theorem OwnC.nfr {K : PySem.W.Frag} {H G : Hp} {d : D} {a : Addr} (h : OwnC K H G d a) : ¬ Fr1 H a := by
  intro z
  cases d with
  | lst ds =>
    obtain ⟨vs, e, r⟩ := h
    rcases z with z | ⟨ws, z⟩ <;> rw [e] at z <;> cases z
  | dct t kvs => rcases h with ⟨t0, ps, e, k, r⟩ | ⟨t0, ps, e, k, r⟩ <;> rcases z with z | ⟨ws, z⟩ <;> rw [e] at z <;> cases z
  | _ => exact h.elim
/-- behind a step: H to H', the part G to G' -/
structure Ext (H G H' G' : Hp) : Prop where
  hh : Sub H H'
  gg : Sub G G'
  gh : Sub G' H'
  new : ∀ b, G' b ≠ none → G b ≠ none ∨ Fr1 H b
theorem Ext.refl {H G : Hp} (g : Sub G H) : Ext H G H G := ⟨Sub.refl H, Sub.refl G, g, fun _ h => .inl h⟩
theorem Ext.trans {H G H1 G1 H2 G2 : Hp} (a : Ext H G H1 G1) (b : Ext H1 G1 H2 G2) : Ext H G H2 G2 :=
  ⟨a.hh.trans b.hh, a.gg.trans b.gg, b.gh, fun c h => by
    rcases b.new c h with z | z
    · exact a.new c z
    · exact .inr (z.back a.hh)⟩
/-- a new object that all may know -/
theorem Ext.laid {H G : Hp} {p : Addr} {o : HO} (g : Sub G H) (n : H p = none) : Ext H G (upd H p o) (upd G p o) :=
  ⟨Sub.upd n, Sub.upd (g.free n), fun b u e => by
    by_cases hb : b = p
    · subst hb; rw [upd_same] at e ⊢; exact e
    · rw [upd_ne hb] at e ⊢; exact g _ _ e, fun b h => by
    by_cases hb : b = p
    · subst hb; exact .inr (.inl n)
    · rw [upd_ne hb] at h; exact .inl h⟩

/-! ### exceptions -/
/-- which class value a class's name has; its fields' values -/
structure ExcKit where
  mg : Str → Option Value
def IsExc (K : PySem.W.Frag) (mg : Str → Option Value) (c : String) (fs : List (D × D)) (cls : Value) (o : Option Addr) (H₀ H : Hp) : Prop :=
  mg (Str.ofString c) = some cls ∧ match o with
    | none => fs = []
    | some d => fs ≠ [] ∧ H₀ d = none ∧ ∃ ps, H d = some (.xd ps) ∧ fs.map (·.1) = ps.map (fun p => D.str p.1) ∧ RepV K H fs (ps.map (·.2))

theorem IsExc.back {K : PySem.W.Frag} {mg : Str → Option Value} {c : String} {fs : List (D × D)} {cls : Value} {o : Option Addr} {A B H : Hp} (s : Sub A B) (h : IsExc K mg c fs cls o B H) : IsExc K mg c fs cls o A H := by
  refine ⟨h.1, ?_⟩
  cases o with
  | none => exact h.2
  | some d => exact ⟨h.2.1, s.free h.2.2.1, h.2.2.2⟩

/-! ### names -/
abbrev Sl := Option (D × Bool)
abbrev Env := List Sl
/-- the names' values, as a reckoning sees them: those at A may be kept -/
structure EnvG (K : PySem.W.Frag) (A : Nat → Prop) (σ : L2.St) (e : Env) (H G : Hp) : Prop where
  sub : Sub G H
  len : σ.length = e.length
  val : ∀ i d o, e[i]? = some (some (d, o)) → ∃ v, σ[i]? = some (some v) ∧ (A i ∨ o = false → Rep K G d v) ∧ RepC K H G d v
theorem EnvG.ext {K : PySem.W.Frag} {A : Nat → Prop} {σ : L2.St} {e : Env} {H G H' G' : Hp} (h : EnvG K A σ e H G) (x : Ext H G H' G') : EnvG K A σ e H' G' :=
  ⟨x.gh, h.len, fun i d o hi => let ⟨v, h1, h2, h3⟩ := h.val i d o hi; ⟨v, h1, fun z => (h2 z).mono x.gg, h3.mono x.hh x.gg⟩⟩

/-- what is wanted behind a reckoning -/
def PostG (K : PySem.W.Frag) (mg : Str → Option Value) (W : Value → Option Addr → Hp → Prop) (H G : Hp) {α : Type} (r : Res α) (R : α → Hp → Hp → Prop) : Prop := match r with
  | .ok a => ∀ H' G', Ext H G H' G' → R a H' G'
  | .exc c fs => ∀ cls o H', Sub H H' → IsExc K mg c fs cls o H H' → W cls o H'
  | .bad => False
section
variable {K : PySem.W.Frag} {mg : Str → Option Value} {W : Value → Option Addr → Hp → Prop} {H G H' G' : Hp} {α β : Type}
theorem PostG.ext {r : Res α} {R : α → Hp → Hp → Prop} (h : PostG K mg W H G r R) (x : Ext H G H' G') : PostG K mg W H' G' r R := by
  cases r with
  | ok a => exact fun H2 G2 y => h H2 G2 (x.trans y)
  | exc c fs => exact fun cls o H2 y z => h cls o H2 (x.hh.trans y) (z.back x.hh)
  | bad => exact h
theorem PostG.imp {r : Res α} {R R' : α → Hp → Hp → Prop} (h : PostG K mg W H G r R) (f : ∀ a H' G', Ext H G H' G' → R a H' G' → R' a H' G') : PostG K mg W H G r R' := by
  cases r with
  | ok a => exact fun H2 G2 y => f a H2 G2 y (h H2 G2 y)
  | exc c fs => exact h
  | bad => exact h
theorem PostG.split {r : Res α} {f : α → Res β} {R : β → Hp → Hp → Prop} (h : PostG K mg W H G (r.bind f) R) : PostG K mg W H G r fun a H1 G1 => PostG K mg W H1 G1 (f a) R := by
  cases r with
  | ok a => exact fun H2 G2 y => PostG.ext (r := f a) h y
  | exc c fs => exact h
  | bad => exact h
theorem PostG.val {d : D} {Q : VK} (h : PostG K mg W H G (Res.ok d) fun d H' G' => ∀ v, Rep K G' d v → Q v H') (g : Sub G H) {v : V} (r : Rep K G d v) : Q v H := h H G (Ext.refl g) v r
theorem PostG.here {a : α} {R : α → Hp → Hp → Prop} (h : PostG K mg W H G (.ok a) R) (g : Sub G H) : R a H G := h H G (Ext.refl g)
end

theorem _root_.L2.PE.imp {X : Cx} {e : Expr} {t t' : TE} (h : PE X e t) (f : ∀ σ H Q, t' σ H Q → t σ H Q) : PE X e t' := ⟨fun pins s σ H Q I q => h.run pins s σ H Q I (f σ H Q q)⟩
theorem _root_.L2.PA.imp {X : Cx} {e : List Expr} {t t' : TA} (h : PA X e t) (f : ∀ σ H Q, t' σ H Q → t σ H Q) : PA X e t' := ⟨fun pos pins s σ H Q I q => h.run pos pins s σ H Q I (f σ H Q q)⟩
theorem _root_.L2.PT.imp {X : Cx} {e : Expr} {t t' : TT} (h : PT X e t) (f : ∀ σ H Q, t' σ H Q → t σ H Q) : PT X e t' := ⟨fun pins s σ H Q I q => h.run pins s σ H Q I (f σ H Q q)⟩
theorem _root_.L2.PW.imp {X : Cx} {e : Expr} {t t' : TT} (h : PW X e t) (f : ∀ σ H Q, t' σ H Q → t σ H Q) : PW X e t' := ⟨fun wh pins s σ H Q I q => h.run wh pins s σ H Q I (f σ H Q q)⟩
theorem _root_.L2.PS.imp {X : Cx} {e : Stmt} {t t' : TS} (h : PS X e t) (f : ∀ D σ H, t' D σ H → t D σ H) : PS X e t' := ⟨fun pins s σ H D I q => h.run pins s σ H D I (f D σ H q)⟩
theorem _root_.L2.PSs.imp {X : Cx} {e : List Stmt} {t t' : TS} (h : PSs X e t) (f : ∀ D σ H, t' D σ H → t D σ H) : PSs X e t' := ⟨fun pins s σ H D I q => h.run pins s σ H D I (f D σ H q)⟩
theorem _root_.L2.PI.imp {X : Cx} {tg e : Expr} {t t' : TI} (h : PI X tg e t) (f : ∀ σ H Q, t' σ H Q → t σ H Q) : PI X tg e t' := ⟨fun pins s σ H Q I q => h.run pins s σ H Q I (f σ H Q q)⟩

/-! ### the readings -/
section
variable (K : PySem.W.Frag) (mg : Str → Option Value) (W : WX) (A : Nat → Prop)
/-- a reckoning's value, kept by whoever has it -/
def tD (f : Env → Res D) : TE := fun σ H Q => ∃ e G, EnvG K A σ e H G ∧ PostG K mg (fun c o H' => W c o σ H') H G (f e) fun d H' G' => ∀ v, Rep K G' d v → Q v H'
/-- .. read alone -/
def tR (f : Env → Res D) : TE := fun σ H Q => ∃ e G, EnvG K A σ e H G ∧ PostG K mg (fun c o H' => W c o σ H') H G (f e) fun d H' G' => ∀ v, RepC K H' G' d v → Q v H'
/-- .. new, and of none else -/
def tF (f : Env → Res D) : TE := fun σ H Q => ∃ e G, EnvG K A σ e H G ∧ PostG K mg (fun c o H' => W c o σ H') H G (f e) fun d H' G' => ∀ a, H a = none → G' a = none → OwnC K H' G' d a → Q (.ref a) H'
def tDs (f : Env → Res (List D)) : TA := fun σ H Q => ∃ e G, EnvG K A σ e H G ∧ PostG K mg (fun c o H' => W c o σ H') H G (f e) fun ds H' G' => ∀ vs, RepL K G' ds vs → Q vs H'
def tT (f : Env → Res Bool) : TT := fun σ H Q => ∃ e G, EnvG K A σ e H G ∧ PostG K mg (fun c o H' => W c o σ H') H G (f e) fun b H' G' => Q b H'
end
section
variable {X : Cx} {W : WX} {A : Nat → Prop}
abbrev DE (X : Cx) (W : WX) (A : Nat → Prop) (ex : Expr) (f : Env → Res D) : Prop := PE X ex (tD X.K X.mg W A f)
abbrev DR (X : Cx) (W : WX) (A : Nat → Prop) (ex : Expr) (f : Env → Res D) : Prop := PE X ex (tR X.K X.mg W A f)
abbrev DF (X : Cx) (W : WX) (A : Nat → Prop) (ex : Expr) (f : Env → Res D) : Prop := PE X ex (tF X.K X.mg W A f)
abbrev DA (X : Cx) (W : WX) (A : Nat → Prop) (es : List Expr) (f : Env → Res (List D)) : Prop := PA X es (tDs X.K X.mg W A f)
abbrev DT (X : Cx) (W : WX) (A : Nat → Prop) (ex : Expr) (f : Env → Res Bool) : Prop := PT X ex (tT X.K X.mg W A f)
abbrev DW (X : Cx) (W : WX) (A : Nat → Prop) (ex : Expr) (f : Env → Res Bool) : Prop := PW X ex (tT X.K X.mg W A f)
/-- kept, so read -/
theorem dr {ex : Expr} {f : Env → Res D} (h : DE X W A ex f) : DR X W A ex f :=
  h.imp fun σ H Q ⟨e, G, E, p⟩ => ⟨e, G, E, p.imp fun d H' G' x q v r => q v (r.c x.gh)⟩
/-- new, so locked and all men's -/
theorem own_lock {K : PySem.W.Frag} {H G H' G' : Hp} {d : D} {a : Addr} (x : Ext H G H' G') (ha : H a = none) (ga : G' a = none) (rc : OwnC K H' G' d a) : LockT (fun H2 => ∃ G2, Ext H G H2 G2 ∧ Rep K G2 d (.ref a)) H' := by
  cases hd : d.isDct with
  | false =>
    have sg : Sub G' (fun b => if b = a then H' b else G' b) := fun b o q => by
      show (if b = a then H' b else G' b) = some o
      by_cases hb : b = a
      · subst hb; rw [ga] at q; cases q
      · rw [if_neg hb]; exact q
    have gaa : (fun b => if b = a then H' b else G' b : Hp) a = H' a := if_pos rfl
    refine .here ⟨fun b => if b = a then H' b else G' b, ⟨x.hh, x.gg.trans sg, fun b o q => ?_, fun b q => ?_⟩, rc.put hd sg gaa⟩
    · have q' : (if b = a then H' b else G' b) = some o := q
      by_cases hb : b = a
      · rw [if_pos hb] at q'; exact q'
      · rw [if_neg hb] at q'; exact x.gh _ _ q'
    · have q' : (if b = a then H' b else G' b) ≠ none := q
      by_cases hb : b = a
      · subst hb; exact .inr (.inl ha)
      · rw [if_neg hb] at q'; exact x.new b q'
  | true =>
    have sg : ∀ od u, Sub G' (upd G' a (.frz od u)) := fun od u => Sub.upd ga
    obtain ⟨u, hu, mu, _⟩ := rc.lock hd (Sub.refl G')
    refine .lock hu mu fun od => .here ⟨upd G' a (.frz od u), ⟨fun b o q => ?_, x.gg.trans (sg od u), fun b o q => ?_, fun b q => ?_⟩, ?_⟩
    · have nb : b ≠ a := fun z => by rw [z, ha] at q; cases q
      rw [upd_ne nb]; exact x.hh b o q
    · by_cases hb : b = a
      · subst hb; rw [upd_same] at q ⊢; exact q
      · rw [upd_ne hb] at q ⊢; exact x.gh b o q
    · by_cases hb : b = a
      · subst hb; exact .inr (.inl ha)
      · rw [upd_ne hb] at q; exact x.new b q
    · obtain ⟨u', hu', _, k⟩ := rc.lock hd (sg od u)
      rw [hu] at hu'; cases hu'
      exact k od upd_same
/-- new, so kept -/
theorem de_of {ex : Expr} {f : Env → Res D} (h : DF X W A ex f) : DE X W A ex f :=
  h.lkP fun σ H Q ⟨e, G, E, p⟩ => ⟨e, G, E, by
    cases hr : f e with
    | exc c fs => rw [hr] at p; exact p
    | bad => rw [hr] at p; exact p
    | ok d =>
      rw [hr] at p
      intro H' G' x a ha ga rc
      exact (own_lock x ha ga rc).imp fun H2 ⟨G2, y, r⟩ => p H2 G2 y (.ref a) r⟩

/-! ### names, constants -/
def eVar (i : Nat) : Env → Res D := fun e => match e[i]? with
  | some (some (d, _)) => .ok d
  | _ => .bad
def eC (d : D) : Env → Res D := fun _ => .ok d
theorem de_const {ex : Expr} {v : V} {d : D} (h : PE X ex (tC v)) (r : ∀ G, Rep X.K G d v) : DE X W A ex (eC d) :=
  h.imp fun σ H Q ⟨e, G, E, p⟩ => p.here E.sub v (r G)
theorem de_int {i j pos} : DE X W A (.Constant (.int i) j pos) (eC (.int i)) := de_const pe_int fun _ => rfl
theorem de_bl {b j pos} : DE X W A (.Constant (.bool b) j pos) (eC (.bl b)) := de_const pe_bl fun _ => rfl
theorem de_str {x j pos} : DE X W A (.Constant (.str x) j pos) (eC (.str x)) := de_const pe_str fun _ => rfl
/-! ### operators on two values -/
def eOp (g : D → D → Res D) (fa fb : Env → Res D) : Env → Res D := fun e => (fa e).bind fun x => (fb e).bind fun y => g x y
/-- the operation f does on data what g says -/
def OpD (X : Cx) (W : WX) (f : Value → Value → Sem Value) (g : D → D → Res D) : Prop :=
  ∃ r, OpR X f r ∧ ∀ (σ : L2.St) (H G : Hp) (x y : V) (dx dy : D) (Q : VK), Sub G H → RepC X.K H G dx x → RepC X.K H G dy y →
    PostG X.K X.mg (fun c o H' => W c o σ H') H G (g dx dy) (fun d H' G' => ∀ v, Rep X.K G' d v → Q v H') → r x y H Q
theorem op_two {r : R2} {g : D → D → Res D} {fa fb : Env → Res D} {ta tb : TE} (hta : ta = tR X.K X.mg W A fa) (htb : tb = tR X.K X.mg W A fb)
    (h : ∀ (σ : L2.St) (H G : Hp) (x y : V) (dx dy : D) (Q : VK), Sub G H → RepC X.K H G dx x → RepC X.K H G dy y →
      PostG X.K X.mg (fun c o H' => W c o σ H') H G (g dx dy) (fun d H' G' => ∀ v, Rep X.K G' d v → Q v H') → r x y H Q) (σ : L2.St) (H : Hp) (Q : VK) (q : tD X.K X.mg W A (eOp g fa fb) σ H Q) : tOp r ta tb σ H Q := by
  subst hta htb
  obtain ⟨e, G, E, p⟩ := q
  refine ⟨e, G, E, p.split.imp fun dx H1 G1 x1 p1 v rv => ?_⟩
  refine ⟨e, G1, E.ext x1, p1.split.imp fun dy H2 G2 x2 p2 u ru => ?_⟩
  exact h σ H2 G2 v u dx dy Q x2.gh (rv.mono x2.hh x2.gg) ru p2
theorem de_bin {op : Operator} {a b : Expr} {fa fb : Env → Res D} {g : D → D → Res D} {pos : Pos} (ho : OpD X W (binaryOp op) g) (ha : DR X W A a fa) (hb : DR X W A b fb) : DE X W A (.BinOp a op b pos) (eOp g fa fb) := by
  obtain ⟨r, h1, h2⟩ := ho
  exact (pe_op h1 ha hb).imp (op_two rfl rfl h2)
theorem de_cmp {op : CmpOp} {a b : Expr} {fa fb : Env → Res D} {g : D → D → Res D} {pos : Pos} (ho : OpD X W (compareOp op) g) (ha : DR X W A a fa) (hb : DR X W A b fb) (hm : behindInMarks op b = false) : DE X W A (.Compare a [op] [b] pos) (eOp g fa fb) := by
  obtain ⟨r, h1, h2⟩ := ho
  exact (pe_cmpR h1 ha hb hm).imp (op_two rfl rfl h2)
end
end DL

namespace DL
open PySem PySem.Spec PyProof.Rows L2
open PySem.Builtin.Int (intBits)

/-! ### whole numbers -/
section
variable {X : Cx} {W : WX}
/-- a rule for two values, where it is told of data -/
theorem OpD.or {f : Value → Value → Sem Value} {g1 g2 : D → D → Res D} (c : D → D → Bool) (h1 : OpD X W f g1) (h2 : OpD X W f g2) : OpD X W f fun x y => if c x y = true then g1 x y else g2 x y := by
  obtain ⟨r1, o1, q1⟩ := h1
  obtain ⟨r2, o2, q2⟩ := h2
  refine ⟨_, OpR.or o1 o2, fun σ H G x y dx dy Q sg rx ry p => ?_⟩
  dsimp only at p
  by_cases hc : c dx dy = true
  · rw [if_pos hc] at p; exact .inl (q1 σ H G x y dx dy Q sg rx ry p)
  · rw [if_neg hc] at p; exact .inr (q2 σ H G x y dx dy Q sg rx ry p)
theorem OpD.congr {f : Value → Value → Sem Value} {g1 g2 : D → D → Res D} (h : OpD X W f g1) (e : ∀ x y, g2 x y = .bad ∨ g2 x y = g1 x y) : OpD X W f g2 := by
  obtain ⟨r, o, q⟩ := h
  refine ⟨r, o, fun σ H G x y dx dy Q sg rx ry p => ?_⟩
  rcases e dx dy with z | z
  · rw [z] at p; exact p.elim
  · rw [z] at p; exact q σ H G x y dx dy Q sg rx ry p

/-- ints in, an int out -/
def gI (C : Int → Int → Bool) (g : Int → Int → Int) : D → D → Res D
  | .int i, .int j => if C i j = true then .ok (.int (g i j)) else .bad
  | _, _ => .bad
theorem od_I {f : Value → Value → Sem Value} {C : Int → Int → Bool} {g : Int → Int → Int}
    (rule : ∀ (i j : Int) (t u : Tok) (s : Shared) (Q : Value → Shared → Prop) (E : Value → Shared → Prop), C i j = true → Q (.int (g i j) s.toks) { s with toks := s.toks + 1 } → wpAny (model X.prog X.w) X.A (f (.int i t) (.int j u)) Q E s) :
    OpD X W f (gI C g) := by
  refine ⟨rI (fun i j => C i j = true) fun i j => .int (g i j), opI rule, fun σ H G x y dx dy Q sg rx ry p => ?_⟩
  cases dx with
  | int i =>
    cases dy with
    | int j =>
      have rx' : x = .int i := rx
      have ry' : y = .int j := ry
      dsimp only [gI] at p
      by_cases hc : C i j = true
      · rw [if_pos hc] at p
        exact ⟨i, j, rx', ry', hc, p.here sg _ rfl⟩
      · rw [if_neg hc] at p
        exact p.elim
    | _ => exact (show False from p).elim
  | _ => cases dy <;> exact (show False from p).elim
def cT : Int → Int → Bool := fun _ _ => true
def cDiv : Int → Int → Bool := fun _ j => decide (j ≠ 0 ∧ j.natAbs.log2 < 9000)
def cMod : Int → Int → Bool := fun _ j => decide (j ≠ 0)
def cPow : Int → Int → Bool := fun i j => decide (0 ≤ j ∧ (intBits i : Int) * j ≤ 2 ^ 27)
theorem od_subI : OpD X W (binaryOp .Sub) (gI cT fun i j => i - j) := od_I fun _ _ _ _ _ _ _ _ q => sub_int q
theorem od_divI : OpD X W (binaryOp .FloorDiv) (gI cDiv fun i j => i.fdiv j) := od_I fun _ _ _ _ _ _ _ c q =>
  have c' := of_decide_eq_true c
  floordiv_int c'.1 q (.inl (PyProof.noPylong_of_log2 c'.2))
theorem od_modI : OpD X W (binaryOp .Mod) (gI cMod fun i j => i.fmod j) := od_I fun _ _ _ _ _ _ _ c q => mod_int' (of_decide_eq_true c) q
theorem od_powI : OpD X W (binaryOp .Pow) (gI cPow fun i j => i ^ j.toNat) := od_I fun _ _ _ _ _ _ _ c q =>
  have c' := of_decide_eq_true c
  pow_int c'.1 c'.2 q
/-! ### + of texts, tuples, lists -/
def dAdd : D → D → Res D
  | .int i, .int j => .ok (.int (i + j))
  | .str a, .str b => if a.length + b.length ≤ sizeLine then .ok (.str (a ++ b)) else .bad
  | .tup a, .tup b => if a.length + b.length ≤ sizeLine then .ok (.tup (a ++ b)) else .bad
  | .lst a, .lst b => if a.length + b.length ≤ sizeLine then .ok (.lst (a ++ b)) else .bad
  | _, _ => .bad
/-- a + b of lists that are read -/
def rCatR (K : PySem.W.Frag) : R2 := fun x y H Q => ∃ l b xs zs, x = .ref l ∧ y = .ref b ∧ SqL K H l xs ∧ SqL K H b zs ∧ xs.length + zs.length ≤ sizeLine ∧ ∀ p, H p = none → Q (.ref p) (upd H p (.lst (xs ++ zs)))
theorem op_catR : OpR X (binaryOp .Add) (rCatR X.K) := by
  intro pins s σ H x y v u Q I rx ry h
  obtain ⟨l, b, xs, zs, rfl, rfl, hH, hB, hz, q⟩ := h
  cases rx
  cases ry
  obtain ⟨its, r, ⟨⟨cls, dd, data, sl⟩, n, ho, hc, hdd, hd⟩, _⟩ := I.list hH
  obtain ⟨its2, r2, ⟨⟨cls2, dd2, data2, sl2⟩, n2, ho2, hc2, hdd2, hd2⟩, _⟩ := I.list hB
  simp only at hc hd hc2 hd2
  subst hc hd hc2 hd2
  have l1 := r.length
  have l2 := r2.length
  have e : its.toArray ++ its2.toArray = (its ++ its2).toArray := by simp
  refine concat_meets ⟨_, ho, rfl⟩ ⟨_, ho2, rfl⟩ noFill_list_add seq_list_add PySem.F.slot_list_add PySem.F.entry_list_add (PySem.F.args_list_add_2 _ _) (list_addW l b its.toArray its2.toArray n n2 dd dd2 sl sl2 (by simp; omega)) ⟨ho, ho2, ?_⟩
  rw [e]
  exact ⟨.ref _, _, I.lnew (t' := s.toks) (r.append r2) (by rw [List.length_append]; omega), rfl, q _ I.fresh⟩
theorem op_addS' : OpR X (binaryOp .Add) (fun x y H Q => ∃ i j, x = .str i ∧ y = .str j ∧ i.length + j.length ≤ sizeLine ∧ Q (.str (i ++ j)) H) := op_add_str
theorem od_add : OpD X W (binaryOp .Add) dAdd := by
  refine ⟨_, OpR.or op_add (OpR.or op_addS' (OpR.or op_catA op_catR)), fun σ H G x y dx dy Q sg rx ry p => ?_⟩
  cases dx with
  | int i =>
    cases dy with
    | int j => exact .inl ⟨i, j, rx, ry, PostG.val (d := .int (i + j)) p sg rfl⟩
    | _ => exact (show False from p).elim
  | str i =>
    cases dy with
    | str j =>
      dsimp only [dAdd] at p
      by_cases hc : i.length + j.length ≤ sizeLine
      · rw [if_pos hc] at p
        exact .inr (.inl ⟨i, j, rx, ry, hc, p.here sg _ rfl⟩)
      · rw [if_neg hc] at p; exact p.elim
    | _ => exact (show False from p).elim
  | tup i =>
    cases dy with
    | tup j =>
      dsimp only [dAdd] at p
      by_cases hc : i.length + j.length ≤ sizeLine
      · rw [if_pos hc] at p
        obtain ⟨a, vs, e1, s1, r1⟩ := (show Rep X.K G (.tup i) x from rx)
        obtain ⟨b, ws, e2, s2, r2⟩ := (show Rep X.K G (.tup j) y from ry)
        refine .inr (.inr (.inl ⟨a, b, vs, ws, e1, e2, sg.pt s1, sg.pt s2, by rw [r1.length, r2.length]; exact hc, fun z => ?_, fun z1 z2 => ?_, fun z1 z2 q hq => ?_⟩))
        · subst z
          refine p.here sg _ ⟨b, ws, rfl, s2, ?_⟩
          cases i with
          | nil => exact r2
          | cons d ds => obtain ⟨_, _, e, _⟩ := r1; cases e
        · subst z2
          refine p.here sg _ ⟨a, vs, rfl, s1, ?_⟩
          cases j with
          | nil => rw [List.append_nil]; exact r1
          | cons d ds => obtain ⟨_, _, e, _⟩ := r2; cases e
        · exact p _ _ (Ext.laid sg hq) _ ⟨q, _, rfl, upd_same, (r1.append r2).mono (Sub.upd (sg.free hq))⟩
      · rw [if_neg hc] at p; exact p.elim
    | _ => exact (show False from p).elim
  | lst i =>
    cases dy with
    | lst j =>
      dsimp only [dAdd] at p
      by_cases hc : i.length + j.length ≤ sizeLine
      · rw [if_pos hc] at p
        obtain ⟨a, vs, e1, s1, r1⟩ := rx
        obtain ⟨b, ws, e2, s2, r2⟩ := ry
        refine .inr (.inr (.inr ⟨a, b, vs, ws, e1, e2, s1, s2, by rw [r1.length, r2.length]; exact hc, fun q hq => ?_⟩))
        exact p _ _ (Ext.laid sg hq) _ ⟨q, _, rfl, SqL.of upd_same, (r1.append r2).mono (Sub.upd (sg.free hq))⟩
      · rw [if_neg hc] at p; exact p.elim
    | _ => exact (show False from p).elim
  | _ => exact (show False from p).elim

/-! ### * -/
def dSub : D → D → Res D
  | .int i, .int j => .ok (.int (i - j))
  | _, _ => .bad
theorem od_sub : OpD X W (binaryOp .Sub) dSub := od_subI.congr fun x y => by
  cases x <;> cases y <;> first
    | exact .inl rfl
    | exact .inr (by simp [dSub, gI, cT])
def dDiv : D → D → Res D
  | .int i, .int j => if j ≠ 0 ∧ j.natAbs.log2 < 9000 then .ok (.int (i.fdiv j)) else .bad
  | _, _ => .bad
theorem od_div : OpD X W (binaryOp .FloorDiv) dDiv := od_divI.congr fun x y => by
  cases x <;> cases y <;> first
    | exact .inl rfl
    | exact .inr (by simp [dDiv, gI, cDiv])
def dMod : D → D → Res D
  | .int i, .int j => if j ≠ 0 then .ok (.int (i.fmod j)) else .bad
  | _, _ => .bad
theorem od_mod : OpD X W (binaryOp .Mod) dMod := od_modI.congr fun x y => by
  cases x <;> cases y <;> first
    | exact .inl rfl
    | exact .inr (by simp [dMod, gI, cMod])
def dPow : D → D → Res D
  | .int i, .int j => if 0 ≤ j ∧ (intBits i : Int) * j ≤ 2 ^ 27 then .ok (.int (i ^ j.toNat)) else .bad
  | _, _ => .bad
theorem od_pow : OpD X W (binaryOp .Pow) dPow := od_powI.congr fun x y => by
  cases x <;> cases y <;> first
    | exact .inl rfl
    | exact .inr (by simp [dPow, gI, cPow])

end

/-! ### == of data -/
mutual
def D.py : D → PyData
  | .non => .none
  | .bl b => .bool b
  | .int i => .int i
  | .str x => .str x
  | .obj _ => .none
  | .err _ _ => .none
  | .exn _ _ _ => .none
  | .tup xs => .tuple (D.pys xs)
  | .lst xs => .list (D.pys xs)
  | .dct _ _ => .none
  | .con xs => .tuple (D.pys xs)
def D.pys : List D → List PyData
  | [] => []
  | d :: r => D.py d :: D.pys r
end
mutual
/-- without dicts and objects; texts that are texts; at most so deep -/
def D.pl : D → Nat → Bool
  | .non, _ => true
  | .bl _, _ => true
  | .int _, _ => true
  | .str x, _ => PyData.strOk x
  | .obj _, _ => false
  | .err _ _, _ => false
  | .exn _ _ _, _ => false
  | .tup xs, n => match n with
    | 0 => false
    | n + 1 => D.pls xs n
  | .lst xs, n => match n with
    | 0 => false
    | n + 1 => D.pls xs n
  | .dct _ _, _ => false
  | .con xs, n => match n with
    | 0 => false
    | n + 1 => D.pls xs n
def D.pls : List D → Nat → Bool
  | [], _ => true
  | d :: r, n => D.pl d n && D.pls r n
end
theorem pl_nd {d : D} {n : Nat} (h : d.pl n = true) : d.isDct = false := by
  cases d with
  | dct t kvs => simp [D.pl] at h
  | _ => rfl
mutual
theorem py_can : ∀ (d : D) (n : Nat), d.pl n = true → d.py.canLay0 = true ∧ d.py.depth ≤ n
  | .non, n, _ => ⟨by simp [D.py, PyData.canLay0], by simp [D.py, PyData.depth]⟩
  | .bl _, n, _ => ⟨by simp [D.py, PyData.canLay0], by simp [D.py, PyData.depth]⟩
  | .int _, n, _ => ⟨by simp [D.py, PyData.canLay0], by simp [D.py, PyData.depth]⟩
  | .str _, n, h => ⟨by simpa [D.py, PyData.canLay0, D.pl] using h, by simp [D.py, PyData.depth]⟩
  | .obj _, n, h => by simp [D.pl] at h
  | .err _ _, n, h => by simp [D.pl] at h
  | .exn _ _ _, n, h => by simp [D.pl] at h
  | .dct _ _, n, h => by simp [D.pl] at h
  | .con xs, 0, h => by simp [D.pl] at h
  | .con xs, n + 1, h => by
    have := pys_can xs n (by simpa [D.pl] using h)
    exact ⟨by simpa [D.py, PyData.canLay0] using this.1, by simp [D.py, PyData.depth]; exact this.2⟩
  | .tup xs, 0, h => by simp [D.pl] at h
  | .lst xs, 0, h => by simp [D.pl] at h
  | .tup xs, n + 1, h => by
    have := pys_can xs n (by simpa [D.pl] using h)
    exact ⟨by simpa [D.py, PyData.canLay0] using this.1, by simp [D.py, PyData.depth]; exact this.2⟩
  | .lst xs, n + 1, h => by
    have := pys_can xs n (by simpa [D.pl] using h)
    exact ⟨by simpa [D.py, PyData.canLay0] using this.1, by simp [D.py, PyData.depth]; exact this.2⟩
theorem pys_can : ∀ (ds : List D) (n : Nat), D.pls ds n = true → PyData.canLayAll0 (D.pys ds) = true ∧ PyData.depthAll (D.pys ds) ≤ n
  | [], n, _ => ⟨by simp [D.pys, PyData.canLayAll0], by simp [D.pys, PyData.depthAll]⟩
  | d :: r, n, h => by
    have h' : d.pl n = true ∧ D.pls r n = true := by simpa [D.pls] using h
    have a := py_can d n h'.1
    have b := pys_can r n h'.2
    exact ⟨by simp [D.pys, PyData.canLayAll0, a.1, b.1], by simp only [D.pys, PyData.depthAll]; omega⟩
end
mutual
theorem Rep.dp {K : PySem.W.Frag} {H : Hp} : ∀ (d : D) (n : Nat) (v : V), d.pl n = true → Rep K H d v → Dp K H v d.py
  | .non, n, v, _, r => by rw [show v = .non from r]; exact .non
  | .bl b, n, v, _, r => by rw [show v = .bl b from r]; exact .bl b
  | .int i, n, v, _, r => by rw [show v = .int i from r]; exact .int i
  | .str x, n, v, _, r => by rw [show v = .str x from r]; exact .str x
  | .obj _, n, v, h, r => by simp [D.pl] at h
  | .err _ _, n, v, h, r => by simp [D.pl] at h
  | .exn _ _ _, n, v, h, r => by simp [D.pl] at h
  | .dct _ _, n, v, h, r => by simp [D.pl] at h
  | .con xs, 0, v, h, r => by simp [D.pl] at h
  | .con xs, n + 1, v, h, r => by
    obtain ⟨a, vs, e, s, q⟩ := r
    subst e
    exact .tup s.sqt (RepL.dp xs n vs (by simpa [D.pl] using h) q)
  | .tup xs, 0, v, h, r => by simp [D.pl] at h
  | .lst xs, 0, v, h, r => by simp [D.pl] at h
  | .tup xs, n + 1, v, h, r => by
    obtain ⟨a, vs, e, s, q⟩ := r
    subst e
    exact .tup (SqT.of s) (RepL.dp xs n vs (by simpa [D.pl] using h) q)
  | .lst xs, n + 1, v, h, r => by
    obtain ⟨a, vs, e, s, q⟩ := r
    subst e
    exact .lst s (RepL.dp xs n vs (by simpa [D.pl] using h) q)
theorem RepL.dp {K : PySem.W.Frag} {H : Hp} : ∀ (ds : List D) (n : Nat) (vs : List V), D.pls ds n = true → RepL K H ds vs → DpAll K H vs (D.pys ds)
  | [], n, vs, _, r => by rw [show vs = [] from r]; exact .nil
  | d :: ds, n, vs, h, r => by
    obtain ⟨v, t, e, a, b⟩ := r
    subst e
    have h' : d.pl n = true ∧ D.pls ds n = true := by simpa [D.pls] using h
    exact .cons (Rep.dp d n v h'.1 a) (RepL.dp ds n t h'.2 b)
end
theorem shaped_py {d : D} {n : Nat} (h : d.pl n = true) (hn : n ≤ 64) : SeqAt.shaped d.py = true := by
  have := py_can d n h
  unfold SeqAt.shaped
  rw [this.1, decide_eq_true (by omega : d.py.depth ≤ 64)]
  rfl
def D.beq (x y : D) : Bool := PyData.eqv x.py y.py
def dEq : D → D → Res D
  | .str a, .str b => .ok (.bl (decide (a = b)))
  | x, y => if x.pl 60 = true ∧ y.pl 60 = true then .ok (.bl (D.beq x y)) else .bad
def dNe : D → D → Res D
  | .str a, .str b => .ok (.bl (!decide (a = b)))
  | x, y => if x.pl 60 = true ∧ y.pl 60 = true then .ok (.bl (!D.beq x y)) else .bad
section
variable {X : Cx} {W : WX}
theorem od_eq (hu : X.A.units + 64 < cLine) : OpD X W (compareOp .Eq) dEq := by
  refine ⟨_, OpR.or op_eq (op_eqD hu), fun σ H G x y dx dy Q sg rx ry p => ?_⟩
  have gen : PostG X.K X.mg (fun c o H' => W c o σ H') H G (if dx.pl 60 = true ∧ dy.pl 60 = true then .ok (.bl (D.beq dx dy)) else .bad) (fun d H' G' => ∀ v, Rep X.K G' d v → Q v H') → rEq x y H Q ∨ rEqD X.K x y H Q := fun p => by
    by_cases hc : dx.pl 60 = true ∧ dy.pl 60 = true
    · rw [if_pos hc] at p
      exact .inr ⟨dx.py, dy.py, Rep.dp dx 60 x hc.1 (rx.all sg (pl_nd hc.1)), Rep.dp dy 60 y hc.2 (ry.all sg (pl_nd hc.2)), shaped_py hc.1 (by decide), shaped_py hc.2 (by decide), p.here sg _ rfl⟩
    · rw [if_neg hc] at p; exact p.elim
  cases dx with
  | str a =>
    cases dy with
    | str b =>
      have rx' : x = .str a := rx
      have ry' : y = .str b := ry
      subst rx' ry'
      refine .inl ⟨rfl, ?_⟩
      have q : Q (.bl (decide (a = b))) H := PostG.val (d := .bl (decide (a = b))) p sg rfl
      have e : decide (V.str a = V.str b) = decide (a = b) := by simp
      rw [e]; exact q
    | _ => exact gen p
  | _ => exact gen p
theorem od_ne (hu : X.A.units + 64 < cLine) : OpD X W (compareOp .NotEq) dNe := by
  refine ⟨_, OpR.or op_ne (op_neD hu), fun σ H G x y dx dy Q sg rx ry p => ?_⟩
  have gen : PostG X.K X.mg (fun c o H' => W c o σ H') H G (if dx.pl 60 = true ∧ dy.pl 60 = true then .ok (.bl (!D.beq dx dy)) else .bad) (fun d H' G' => ∀ v, Rep X.K G' d v → Q v H') → rNe x y H Q ∨ rNeD X.K x y H Q := fun p => by
    by_cases hc : dx.pl 60 = true ∧ dy.pl 60 = true
    · rw [if_pos hc] at p
      exact .inr ⟨dx.py, dy.py, Rep.dp dx 60 x hc.1 (rx.all sg (pl_nd hc.1)), Rep.dp dy 60 y hc.2 (ry.all sg (pl_nd hc.2)), shaped_py hc.1 (by decide), shaped_py hc.2 (by decide), p.here sg _ rfl⟩
    · rw [if_neg hc] at p; exact p.elim
  cases dx with
  | str a =>
    cases dy with
    | str b =>
      have rx' : x = .str a := rx
      have ry' : y = .str b := ry
      subst rx' ry'
      refine .inl ⟨rfl, ?_⟩
      have q : Q (.bl (!decide (a = b))) H := PostG.val (d := .bl (!decide (a = b))) p sg rfl
      have e : decide (V.str a = V.str b) = decide (a = b) := by simp
      rw [e]; exact q
    | _ => exact gen p
  | _ => exact gen p
end
/-! ### < of data -/
/-- the two can be compared -/
def D.cmpb (x y : D) : Bool := x.pl 60 && y.pl 60 && PySem.W.alike x.py y.py && (match x with | .non => false | _ => true)
/-- x < y, of data that can be compared -/
def D.lt (x y : D) : Bool := PySem.W.dataLt x.py y.py
def cmpD (f : D → D → Bool) (x y : D) : Res D := if D.cmpb x y = true then .ok (.bl (f x y)) else .bad
def dLt : D → D → Res D
  | .int i, .int j => .ok (.bl (decide (i < j)))
  | x, y => cmpD (fun x y => D.lt x y) x y
def dLe : D → D → Res D
  | .int i, .int j => .ok (.bl (decide (i ≤ j)))
  | x, y => cmpD (fun x y => !D.lt y x) x y
def dGt : D → D → Res D
  | .int i, .int j => .ok (.bl (decide (j < i)))
  | x, y => cmpD (fun x y => D.lt y x) x y
def dGe : D → D → Res D
  | .int i, .int j => .ok (.bl (decide (j ≤ i)))
  | x, y => cmpD (fun x y => !D.lt x y) x y
section
variable {X : Cx} {W : WX}
end
end DL

namespace DL
open PySem PySem.Spec PyProof.Rows L2
open PySem.Builtin.Int (intBits)

/-! ### tests -/
def D.asB : D → Res Bool
  | .bl b => .ok b
  | _ => .bad
/-- a value's truth -/
def D.truth : D → Res Bool
  | .non => .ok false
  | .bl b => .ok b
  | .int i => .ok (i != 0)
  | .str x => if x.length ≤ sizeLine then .ok ((x.length : Int) != 0) else .bad
  | .lst xs => .ok (!xs.isEmpty)
  | .tup xs => .ok (!xs.isEmpty)
  | _ => .bad
def bTest (g : D → D → Res D) (fa fb : Env → Res D) : Env → Res Bool := fun e => (fa e).bind fun x => (fb e).bind fun y => (g x y).bind D.asB
def bTruth (f : Env → Res D) : Env → Res Bool := fun e => (f e).bind D.truth
def bAnd (fa fb : Env → Res Bool) : Env → Res Bool := fun e => (fa e).bind fun b => if b = true then fb e else .ok false
def bOr (fa fb : Env → Res Bool) : Env → Res Bool := fun e => (fa e).bind fun b => if b = true then .ok true else fb e
def bNot (fa : Env → Res Bool) : Env → Res Bool := fun e => (fa e).bind fun b => .ok (!b)
section
variable {X : Cx} {W : WX} {A : Nat → Prop} {a b : Expr} {rest : List Expr} {pos : Pos}
theorem dt_cmp {op : CmpOp} {fa fb : Env → Res D} {g : D → D → Res D} (ho : OpD X W (compareOp op) g) (ha : DR X W A a fa) (hb : DR X W A b fb) (hm : behindInMarks op b = false) : DT X W A (.Compare a [op] [b] pos) (bTest g fa fb) := by
  obtain ⟨r, h1, h2⟩ := ho
  refine (pt_cmpR h1 ha hb hm).imp fun σ H Q ⟨e, G, E, p⟩ => ?_
  refine ⟨e, G, E, p.split.imp fun dx H1 G1 x1 p1 v rv => ⟨e, G1, E.ext x1, p1.split.imp fun dy H2 G2 x2 p2 u ru => ?_⟩⟩
  refine h2 σ H2 G2 v u dx dy _ x2.gh (rv.mono x2.hh x2.gg) ru (p2.split.imp fun d H3 G3 x3 p3 z rz => ?_)
  cases d with
  | bl k => exact ⟨k, rz, p3.here x3.gh⟩
  | _ => exact (show False from p3).elim
theorem truth_v {K : PySem.W.Frag} {H G : Hp} {d : D} {v : V} {k : Bool} (g : Sub G H) (r : RepC K H G d v) (h : d.truth = .ok k) : TruV K v H k := by
  cases d with
  | non => have : v = .non := r; subst this; cases h; rfl
  | bl b => have : v = .bl b := r; subst this; cases h; rfl
  | int i => have : v = .int i := r; subst this; cases h; rfl
  | str x =>
    have : v = .str x := r
    subst this
    dsimp only [D.truth] at h
    by_cases hc : x.length ≤ sizeLine
    · rw [if_pos hc] at h; cases h; exact ⟨hc, rfl⟩
    · rw [if_neg hc] at h; cases h
  | lst xs =>
    obtain ⟨p, vs, e, s, q⟩ := r
    subst e
    cases h
    refine .inl ⟨vs, s, ?_⟩
    have := q.length
    cases vs <;> cases xs <;> simp at this ⊢
  | tup xs =>
    obtain ⟨p, vs, e, s, q⟩ := (show Rep K G (.tup xs) v from r)
    subst e
    cases h
    refine .inr (.inl ⟨vs, g.pt s, ?_⟩)
    have := q.length
    cases vs <;> cases xs <;> simp at this ⊢
  | obj _ => cases h
  | con _ => cases h
  | dct _ _ => cases h
  | err _ _ => cases h
  | exn _ _ _ => cases h
theorem dt_truth {f : Env → Res D} (ha : DR X W A a f) (he : ∀ whole, isTrue a X.env whole = (do let v ← whole; standAt a.pos; holding [v] (truthy v))) : DT X W A a (bTruth f) :=
  (pt_truth ha he).imp fun σ H Q ⟨e, G, E, p⟩ => ⟨e, G, E, p.split.imp fun d H1 G1 x1 p1 v rv => by
    cases ht : d.truth with
    | ok k => rw [ht] at p1; exact ⟨k, truth_v x1.gh rv ht, p1.here x1.gh⟩
    | exc c fs => exact absurd ht (by cases d <;> simp [D.truth] <;> split <;> simp)
    | bad => rw [ht] at p1; exact p1.elim⟩
theorem dw_and1 {fa : Env → Res Bool} (ha : DT X W A a fa) : DW X W A (.BoolOp .And [a] pos) fa := pw_and1 ha
theorem dw_or1 {fa : Env → Res Bool} (ha : DT X W A a fa) : DW X W A (.BoolOp .Or [a] pos) fa := pw_or1 ha
theorem dw_and {fa fb : Env → Res Bool} (ha : DT X W A a fa) (hb : DW X W A (.BoolOp .And (b :: rest) pos) fb) : DW X W A (.BoolOp .And (a :: b :: rest) pos) (bAnd fa fb) :=
  (pw_and ha hb).imp fun σ H Q ⟨e, G, E, p⟩ => ⟨e, G, E, p.split.imp fun k H1 G1 x1 p1 => by
    cases k with
    | true => rw [if_pos rfl] at p1 ⊢; exact ⟨e, G1, E.ext x1, p1⟩
    | false => rw [if_neg Bool.false_ne_true] at p1 ⊢; exact p1.here x1.gh⟩
theorem dw_or {fa fb : Env → Res Bool} (ha : DT X W A a fa) (hb : DW X W A (.BoolOp .Or (b :: rest) pos) fb) : DW X W A (.BoolOp .Or (a :: b :: rest) pos) (bOr fa fb) :=
  (pw_or ha hb).imp fun σ H Q ⟨e, G, E, p⟩ => ⟨e, G, E, p.split.imp fun k H1 G1 x1 p1 => by
    cases k with
    | true => rw [if_pos rfl] at p1 ⊢; exact p1.here x1.gh
    | false => rw [if_neg Bool.false_ne_true] at p1 ⊢; exact ⟨e, G1, E.ext x1, p1⟩⟩
theorem dt_w {f : Env → Res Bool} (h : DW X W A a f) : DT X W A a f := h.pt
theorem dt_not {fa : Env → Res Bool} (ha : DT X W A a fa) : DT X W A (.UnaryOp .Not a pos) (bNot fa) :=
  (pt_not ha).imp fun σ H Q ⟨e, G, E, p⟩ => ⟨e, G, E, p.split.imp fun k H1 G1 x1 p1 => p1.here x1.gh⟩

/-! ### and, or, not, if-else as values -/
def eAnd (fa fb : Env → Res D) : Env → Res D := fun e => (fa e).bind fun x => (D.asB x).bind fun b => if b = true then fb e else .ok (.bl false)
def eOr (fa fb : Env → Res D) : Env → Res D := fun e => (fa e).bind fun x => (D.asB x).bind fun b => if b = true then .ok (.bl true) else fb e
def eNot (fa : Env → Res D) : Env → Res D := fun e => (fa e).bind fun x => (D.asB x).bind fun b => .ok (.bl (!b))
def eNeg (fa : Env → Res D) : Env → Res D := fun e => (fa e).bind fun x => match x with
  | .int i => .ok (.int (-i))
  | _ => .bad
def eIf (ft : Env → Res Bool) (fa fb : Env → Res D) : Env → Res D := fun e => (ft e).bind fun b => if b = true then fa e else fb e
theorem asB_of {K : PySem.W.Frag} {mg : Str → Option Value} {W : Value → Option Addr → Hp → Prop} {H G : Hp} {d : D} {α : Type} {f : Bool → Res α} {R : α → Hp → Hp → Prop} (p : PostG K mg W H G ((D.asB d).bind f) R) : ∃ b, d = .bl b ∧ PostG K mg W H G (f b) R := by
  cases d with
  | bl b => exact ⟨b, rfl, p⟩
  | _ => exact (show False from p).elim
theorem de_one {op} {f : Env → Res D} (h : DE X W A a f) : DE X W A (.BoolOp op [a] pos) f := pe_one h
theorem de_and {fa fb : Env → Res D} (ha : DE X W A a fa) (hb : DE X W A (.BoolOp .And (b :: rest) pos) fb) : DE X W A (.BoolOp .And (a :: b :: rest) pos) (eAnd fa fb) :=
  (pe_and ha hb).imp fun σ H Q ⟨e, G, E, p⟩ => ⟨e, G, E, p.split.imp fun x H1 G1 x1 p1 v rv => by
    obtain ⟨k, rfl, p2⟩ := asB_of p1
    refine ⟨k, rv, ?_⟩
    cases k with
    | true => rw [if_pos rfl] at p2 ⊢; exact ⟨e, G1, E.ext x1, p2⟩
    | false => rw [if_neg Bool.false_ne_true] at p2 ⊢; exact p2.val x1.gh rfl⟩
theorem de_not {fa : Env → Res D} (ha : DE X W A a fa) : DE X W A (.UnaryOp .Not a pos) (eNot fa) :=
  (pe_not ha).imp fun σ H Q ⟨e, G, E, p⟩ => ⟨e, G, E, p.split.imp fun x H1 G1 x1 p1 v rv => by
    obtain ⟨k, rfl, p2⟩ := asB_of p1
    exact ⟨k, rv, p2.val x1.gh rfl⟩⟩
def bVal (f : Env → Res D) : Env → Res Bool := fun e => (f e).bind D.asB
/-! ### argument lists, displays -/
def aNil : Env → Res (List D) := fun _ => .ok []
def aCons (f : Env → Res D) (fs : Env → Res (List D)) : Env → Res (List D) := fun e => (f e).bind fun d => (fs e).bind fun ds => .ok (d :: ds)
theorem da_nil : DA X W A [] aNil := pa_nil.imp fun σ H Q ⟨e, G, E, p⟩ => p.here E.sub [] rfl
theorem da_cons {es : List Expr} {f : Env → Res D} {fs : Env → Res (List D)} (ha : DE X W A a f) (hr : DA X W A es fs) (hs : starEach (a :: es) X.env = (false, eval a X.env) :: starEach es X.env := by rfl) : DA X W A (a :: es) (aCons f fs) :=
  (pa_cons ha hr hs).imp fun σ H Q ⟨e, G, E, p⟩ => ⟨e, G, E, p.split.imp fun d H1 G1 x1 p1 v rv => ⟨e, G1, E.ext x1, p1.split.imp fun ds H2 G2 x2 p2 vs rs => p2.here x2.gh (v :: vs) (.cons (rv.mono x2.gg) rs)⟩⟩
def eTup (fs : Env → Res (List D)) : Env → Res D := fun e => (fs e).bind fun ds => .ok (.tup ds)
def eLst (fs : Env → Res (List D)) : Env → Res D := fun e => (fs e).bind fun ds => .ok (.lst ds)
/-- how long such a list is -/
def LenIs (fs : Env → Res (List D)) (n : Nat) : Prop := ∀ e ds, fs e = .ok ds → ds.length ≤ n
theorem len_nil : LenIs aNil 0 := fun e ds h => by cases h; exact Nat.le_refl _
theorem len_cons {f : Env → Res D} {fs : Env → Res (List D)} {n : Nat} (h : LenIs fs n) : LenIs (aCons f fs) (n + 1) := fun e ds q => by
  unfold aCons at q
  cases hf : f e with
  | ok d =>
    rw [hf] at q
    cases hs : fs e with
    | ok es => rw [hs] at q; cases q; exact Nat.succ_le_succ (h e es hs)
    | exc c x => rw [hs] at q; cases q
    | bad => rw [hs] at q; cases q
  | exc c x => rw [hf] at q; cases q
  | bad => rw [hf] at q; cases q
theorem PostG.ifok {K : PySem.W.Frag} {mg : Str → Option Value} {W : Value → Option Addr → Hp → Prop} {H G : Hp} {α : Type} {r : Res α} {R R' : α → Hp → Hp → Prop} (h : PostG K mg W H G r R) (f : ∀ a H' G', r = .ok a → Ext H G H' G' → R a H' G' → R' a H' G') : PostG K mg W H G r R' := by
  cases r with
  | ok a => exact fun H2 G2 y => f a H2 G2 rfl y (h H2 G2 y)
  | exc c fs => exact h
  | bad => exact h
theorem de_tup {es : List Expr} {x1} {fs : Env → Res (List D)} {n : Nat} (h : DA X W A es fs) (hl : LenIs fs n) (hn : n ≤ sizeLine) : DE X W A (.Tuple es x1 pos) (eTup fs) :=
  (pe_tup h).imp fun σ H Q ⟨e, G, E, p⟩ => ⟨e, G, E, p.split.ifok fun ds H1 G1 hk x1 p1 vs rs => ⟨by rw [rs.length]; exact Nat.le_trans (hl e ds hk) hn, fun q hq =>
    p1 _ _ (Ext.laid x1.gh hq) _ ⟨q, vs, rfl, upd_same, rs.mono (Sub.upd (x1.gh.free hq))⟩⟩⟩
theorem df_lst {es : List Expr} {fs : Env → Res (List D)} {n : Nat} (h : DA X W A es fs) (hl : LenIs fs n) (hn : n ≤ sizeLine) : DF X W A (.List es pos) (eLst fs) :=
  (pe_lst h).imp fun σ H Q ⟨e, G, E, p⟩ => ⟨e, G, E, p.split.ifok fun ds H1 G1 hk x1 p1 vs rs => ⟨by rw [rs.length]; exact Nat.le_trans (hl e ds hk) hn, fun q hq =>
    p1 (upd H1 q (.lst vs)) G1 ⟨Sub.upd hq, Sub.refl _, x1.gh.trans (Sub.upd hq), fun b z => .inl z⟩ q (x1.hh.free hq) (x1.gh.free hq) ⟨vs, upd_same, rs⟩⟩⟩

/-! ### subscripts -/
def dIx : D → D → Res D
  | .con xs, .int i => match atI xs i with
    | some d => .ok d
    | none => .bad
  | .tup xs, .int i => match atI xs i with
    | some d => .ok d
    | none => .bad
  | .lst xs, .int i => match atI xs i with
    | some d => .ok d
    | none => .bad
  | .str x, .int i => if x.length ≤ sizeLine then (match atI x.cps.toList i with
    | some c => .ok (.str ⟨#[c]⟩)
    | none => .bad) else .bad
  | _, _ => .bad
theorem atI_rep {K : PySem.W.Frag} {G : Hp} {ds : List D} {vs : List V} {i : Int} {d : D} (r : RepL K G ds vs) (h : atI ds i = some d) : ∃ v, atI vs i = some v ∧ Rep K G d v := by
  unfold atI at h ⊢
  rw [r.length]
  cases e : ixN ds.length i with
  | none => rw [e] at h; cases h
  | some j =>
    rw [e] at h
    have h' : ds[j]? = some d := h
    obtain ⟨v, h1, h2⟩ := r.get h'
    exact ⟨v, h1, h2⟩
theorem de_ix {fa fb : Env → Res D} (ha : DR X W A a fa) (hb : DR X W A b fb) (hs : PlainIx b) : DE X W A (.Subscript a b pos) (eOp dIx fa fb) := by
  refine (pe_ix (IxR.or ix_list (IxR.or ix_tup ix_str)) ha hb hs).imp (op_two rfl rfl fun σ H G x y dx dy Q sg rx ry p => ?_)
  cases dx with
  | tup ds =>
    cases dy with
    | int i =>
      obtain ⟨q, vs, e, s, r⟩ := (show Rep X.K G (.tup ds) x from rx)
      dsimp only [dIx] at p
      cases ha : atI ds i with
      | none => rw [ha] at p; exact p.elim
      | some d =>
        rw [ha] at p
        obtain ⟨v, h1, h2⟩ := atI_rep r ha
        exact .inr (.inl ⟨q, vs, i, v, e, ry, sg.pt s, h1, p.val sg h2⟩)
    | _ => exact (show False from p).elim
  | con ds =>
    cases dy with
    | int i =>
      obtain ⟨q, vs, e, s, r⟩ := (show Rep X.K G (.con ds) x from rx)
      dsimp only [dIx] at p
      cases ha : atI ds i with
      | none => rw [ha] at p; exact p.elim
      | some d =>
        rw [ha] at p
        obtain ⟨v, h1, h2⟩ := atI_rep r ha
        exact .inr (.inl ⟨q, vs, i, v, e, ry, sg.sqt s.sqt, h1, p.val sg h2⟩)
    | _ => exact (show False from p).elim
  | lst ds =>
    cases dy with
    | int i =>
      obtain ⟨q, vs, e, s, r⟩ := rx
      dsimp only [dIx] at p
      cases ha : atI ds i with
      | none => rw [ha] at p; exact p.elim
      | some d =>
        rw [ha] at p
        obtain ⟨v, h1, h2⟩ := atI_rep r ha
        exact .inl ⟨q, vs, i, v, e, ry, s, h1, p.val sg h2⟩
    | _ => exact (show False from p).elim
  | str z =>
    cases dy with
    | int i =>
      dsimp only [dIx] at p
      by_cases hz : z.length ≤ sizeLine
      · rw [if_pos hz] at p
        cases ha : atI z.cps.toList i with
        | none => rw [ha] at p; exact p.elim
        | some c =>
          rw [ha] at p
          exact .inr (.inr ⟨z, i, c, rx, ry, hz, ha, p.val sg rfl⟩)
      · rw [if_neg hz] at p; exact p.elim
    | _ => exact (show False from p).elim
  | _ => exact (show False from p).elim
end
end DL

namespace DL
open PySem PySem.Spec PyProof.Rows L2
open PySem.Builtin.Int (intBits)

/-! ### slices -/
def tO (K : PySem.W.Frag) (mg : Str → Option Value) (W : WX) (A : Nat → Prop) (f : Env → Res (Option Int)) : TO := fun σ H Q => ∃ e G, EnvG K A σ e H G ∧ PostG K mg (fun c o H' => W c o σ H') H G (f e) fun b H' G' => Q b H'
abbrev DO (X : Cx) (W : WX) (A : Nat → Prop) (ex : Option Expr) (f : Env → Res (Option Int)) : Prop := PO X ex (tO X.K X.mg W A f)
theorem _root_.L2.PO.imp {X : Cx} {e : Option Expr} {t t' : TO} (h : PO X e t) (f : ∀ σ H Q, t' σ H Q → t σ H Q) : PO X e t' := ⟨fun pins s σ H Q I q => h.run pins s σ H Q I (f σ H Q q)⟩
def oNone : Env → Res (Option Int) := fun _ => .ok none
def oSome (f : Env → Res D) : Env → Res (Option Int) := fun e => (f e).bind fun d => match d with
  | .int i => .ok (some i)
  | _ => .bad
def cutL {α : Type} (xs : List α) (lo hi : Option Int) : List α := (xs.drop (HT.sIx xs.length 0 lo)).take (HT.sIx xs.length xs.length hi - HT.sIx xs.length 0 lo)
def dCut (lo hi : Option Int) : D → Res D
  | .tup xs => .ok (.tup (cutL xs lo hi))
  | .lst xs => .ok (.lst (cutL xs lo hi))
  | .str x => if x.length ≤ sizeLine then .ok (.str (cutS x lo hi)) else .bad
  | _ => .bad
def eCut (f : Env → Res D) (fl fh : Env → Res (Option Int)) : Env → Res D := fun e => (f e).bind fun d => (fl e).bind fun lo => (fh e).bind fun hi => dCut lo hi d
theorem cutL_all {α : Type} {xs : List α} {lo hi : Option Int} (h : HT.sIx xs.length 0 lo = 0 ∧ HT.sIx xs.length xs.length hi = xs.length) : cutL xs lo hi = xs := by
  unfold cutL
  rw [h.1, h.2]
  simp
theorem RepL.cut {K : PySem.W.Frag} {G : Hp} {ds : List D} {vs : List V} (lo hi : Option Int) (h : RepL K G ds vs) : RepL K G (cutL ds lo hi) (cutV vs lo hi) := by
  unfold cutL cutV
  rw [h.length]
  exact (h.drop _).take _
section
variable {X : Cx} {W : WX} {A : Nat → Prop} {a b : Expr} {lo hi : Option Expr} {rest : List Expr} {pos p2 : Pos}
theorem do_none : DO X W A none oNone := po_none.imp fun σ H Q ⟨e, G, E, p⟩ => p.here E.sub
theorem do_some {f : Env → Res D} (h : DE X W A a f) : DO X W A (some a) (oSome f) :=
  (po_some h).imp fun σ H Q ⟨e, G, E, p⟩ => ⟨e, G, E, p.split.imp fun d H1 G1 x1 p1 v rv => by
    cases d with
    | int i => exact ⟨i, rv, p1.here x1.gh⟩
    | _ => exact (show False from p1).elim⟩
theorem de_cut {f : Env → Res D} {fl fh : Env → Res (Option Int)} (ha : DR X W A a f) (hl : DO X W A lo fl) (hh : DO X W A hi fh) : DE X W A (.Subscript a (.Slice lo hi none p2) pos) (eCut f fl fh) := by
  refine (pe_slice (SlR.or sl_tupA (SlR.or sl_list sl_str)) ha hl hh).imp fun σ H Q ⟨e, G, E, p⟩ => ?_
  refine ⟨e, G, E, p.split.imp fun d H1 G1 x1 p1 v rv => ⟨e, G1, E.ext x1, p1.split.imp fun l H2 G2 x2 p2 => ⟨e, G2, (E.ext x1).ext x2, p2.split.imp fun u H3 G3 x3 p3 => ?_⟩⟩⟩
  have rv := (rv.mono x2.hh x2.gg).mono x3.hh x3.gg
  have sg := x3.gh
  cases d with
  | tup ds =>
    obtain ⟨q, vs, eq, s, r⟩ := (show Rep X.K G3 (.tup ds) v from rv)
    refine .inl ⟨q, vs, eq, sg.pt s, fun hw => ?_, fun hw q2 hq => ?_⟩
    · refine PostG.val (d := .tup (cutL ds l u)) p3 sg ⟨q, vs, rfl, s, ?_⟩
      rw [r.length] at hw
      rw [cutL_all hw]
      exact r
    · exact (show PostG X.K X.mg _ H3 G3 (Res.ok (D.tup (cutL ds l u))) _ from p3) _ _ (Ext.laid sg hq) _ ⟨q2, _, rfl, upd_same, (r.cut l u).mono (Sub.upd (sg.free hq))⟩
  | lst ds =>
    obtain ⟨q, vs, eq, s, r⟩ := rv
    refine .inr (.inl ⟨q, vs, eq, s, fun q2 hq => ?_⟩)
    exact (show PostG X.K X.mg _ H3 G3 (Res.ok (D.lst (cutL ds l u))) _ from p3) _ _ (Ext.laid sg hq) _ ⟨q2, _, rfl, SqL.of upd_same, (r.cut l u).mono (Sub.upd (sg.free hq))⟩
  | str z =>
    dsimp only [dCut] at p3
    by_cases hz : z.length ≤ sizeLine
    · rw [if_pos hz] at p3
      exact .inr (.inr ⟨z, rv, hz, p3.val sg rfl⟩)
    · rw [if_neg hz] at p3; exact p3.elim
  | _ => exact (show False from p3).elim
end

/-! ### calls of built-ins -/
def e1 (g : D → Res D) (f : Env → Res D) : Env → Res D := fun e => (f e).bind g
/-- a call of one value: what it does on data -/
def Call1 (X : Cx) (W : WX) (f : Value) (g : D → Res D) : Prop :=
  ∃ r, CallR X f r ∧ ∀ (σ : L2.St) (H G : Hp) (x : V) (dx : D) (Q : VK), Sub G H → RepC X.K H G dx x →
    PostG X.K X.mg (fun c o H' => W c o σ H') H G (g dx) (fun d H' G' => ∀ v, Rep X.K G' d v → Q v H') → r [x] H Q
section
variable {X : Cx} {W : WX} {A : Nat → Prop} {a b : Expr} {rest : List Expr} {x : Str} {p pos : Pos} {id T : String}
theorem de_b1 {g : D → Res D} {f : Env → Res D} (hc : Call1 X W (.builtin id) g) (hg : Gl X x) (hm : X.mg x = none) (hv : bootBuiltins x = some (.builtin id)) (ha : DR X W A a f) (hn : x ≠ "__name__" := by decide) (hdb : (x == ("__debug__" : Str)) = false := by decide)
    (he : starEach (a :: []) X.env = (false, eval a X.env) :: starEach [] X.env := by rfl) (hpl : (backTo pos (starEach [] X.env)).any (·.1) = false := by rfl) : DE X W A (.Call (.Name x p) [a] [] pos) (e1 g f) := by
  obtain ⟨r, h1, h2⟩ := hc
  exact (pe_callB h1 hg hm hv (pa_cons ha pa_nil he) hn hdb he hpl).imp fun σ H Q ⟨e, G, E, p⟩ => ⟨e, G, E, p.split.imp fun d H1 G1 x1 p1 v rv => h2 σ H1 G1 v d Q x1.gh rv p1⟩
/-! len, abs, max, min, int, list, tuple, sum .. -/
def rLenD : List V → Hp → VK → Prop := fun xs H Q => ∃ a n, xs = [V.ref a] ∧ ((∃ kvs, Rd H a (.dK kvs) ∧ n = kvs.length) ∨ ∃ kvs, Rd H a (.dT kvs) ∧ n = kvs.length) ∧ Q (.int ((n : Nat) : Int)) H
theorem cr_lenD : CallR X (.builtin "len") rLenD := by
  intro pins s σ H xs us Q I r h
  obtain ⟨a, n, rfl, hd, q⟩ := h
  obtain ⟨u, rfl, rx⟩ := vals1 r
  obtain rfl : u = .ref a := rx
  rcases hd with ⟨kvs, hk, rfl⟩ | ⟨kvs, hk, rfl⟩
  · exact d_len I hk fun t s' I' => ⟨.int _, H, I', ⟨_, rfl⟩, q⟩
  · obtain ⟨z, hd, ys, rel, dd⟩ := dt_rd I.hok hk
    have hl : kvs.length = ys.length := Paired.length rel
    refine call_len_dictH hd dd (by rw [← hl]; rw [PySem.sizeLine_eq] at z; omega) ?_
    rw [← hl]
    exact ⟨.int ((kvs.length : Nat) : Int), H, I.tok _, ⟨_, rfl⟩, q⟩
def dLen : D → Res D
  | .lst xs => .ok (.int xs.length)
  | .tup xs => .ok (.int xs.length)
  | .con xs => .ok (.int xs.length)
  | .str x => if x.length ≤ sizeLine then .ok (.int x.length) else .bad
  | .dct _ kvs => .ok (.int kvs.length)
  | _ => .bad
theorem c1_len : Call1 X W (.builtin "len") dLen := by
  refine ⟨_, CallR.or call_len cr_lenD, fun σ H G x dx Q sg rx p => ?_⟩
  cases dx with
  | lst ds =>
    obtain ⟨q, vs, e, s, r⟩ := rx
    subst e
    refine .inl ⟨_, vs.length, rfl, .inl ⟨vs, s, rfl⟩, ?_⟩
    rw [r.length]
    exact PostG.val (d := .int ds.length) p sg rfl
  | tup ds =>
    obtain ⟨q, vs, e, s, r⟩ := (show Rep X.K G (.tup ds) x from rx)
    subst e
    refine .inl ⟨_, vs.length, rfl, .inr ⟨vs, sg.pt s, rfl⟩, ?_⟩
    rw [r.length]
    exact PostG.val (d := .int ds.length) p sg rfl
  | con ds =>
    obtain ⟨q, vs, e, s, r⟩ := (show Rep X.K G (.con ds) x from rx)
    subst e
    refine .inl ⟨_, vs.length, rfl, .inr ⟨vs, sg.sqt s.sqt, rfl⟩, ?_⟩
    rw [r.length]
    exact PostG.val (d := .int ds.length) p sg rfl
  | dct t kvs =>
    obtain ⟨a, e, h⟩ := rx
    subst e
    have p' : Q (.int ((kvs.length : Nat) : Int)) H := PostG.val (d := .int kvs.length) p sg rfl
    rcases h with ⟨_, ps, h1, h2, _⟩ | ⟨_, ps, h1, h2, _⟩
    · have hl := congrArg List.length h2
      rw [List.length_map, List.length_map] at hl
      exact .inr ⟨a, ps.length, rfl, .inl ⟨ps, h1, rfl⟩, by rw [← hl]; exact p'⟩
    · have hl := congrArg List.length h2
      rw [List.length_map, List.length_map] at hl
      exact .inr ⟨a, ps.length, rfl, .inr ⟨ps, h1, rfl⟩, by rw [← hl]; exact p'⟩
  | str z =>
    have : x = .str z := rx
    subst this
    dsimp only [dLen] at p
    by_cases hz : z.length ≤ sizeLine
    · rw [if_pos hz] at p
      exact .inl ⟨_, z.length, rfl, ⟨hz, rfl⟩, p.val sg rfl⟩
    · rw [if_neg hz] at p; exact p.elim
  | _ => exact (show False from p).elim
def dAbs : D → Res D
  | .int i => .ok (.int (if i < 0 then -i else i))
  | _ => .bad
def dMax : D → D → Res D
  | .int i, .int j => .ok (.int (if j > i then j else i))
  | _, _ => .bad
def dMin : D → D → Res D
  | .int i, .int j => .ok (.int (if j < i then j else i))
  | _, _ => .bad
def dTuple : D → Res D
  | .lst xs => .ok (.tup xs)
  | .tup xs => .ok (.tup xs)
  | .con xs => .ok (.con xs)
  | _ => .bad
def dList : D → Res D
  | .lst xs => .ok (.lst xs)
  | .tup xs => .ok (.lst xs)
  | .con xs => .ok (.lst xs)
  | _ => .bad
/-- the ints of a list of ints -/
def D.ints : List D → Option (List Int)
  | [] => some []
  | .int i :: r => (D.ints r).map fun ns => i :: ns
  | _ :: _ => none
@[simp] theorem ints_map : ∀ ns : List Int, D.ints (ns.map D.int) = some ns
  | [] => rfl
  | n :: r => by show (D.ints (r.map D.int)).map _ = _; rw [ints_map r]; rfl
def D.bls : List D → Option (List Bool)
  | [] => some []
  | .bl i :: r => (D.bls r).map fun ns => i :: ns
  | _ :: _ => none
@[simp] theorem bls_map : ∀ ns : List Bool, D.bls (ns.map D.bl) = some ns
  | [] => rfl
  | n :: r => by show (D.bls (r.map D.bl)).map _ = _; rw [bls_map r]; rfl
def dSum : D → Res D
  | .lst xs => match D.ints xs with
    | some ns => .ok (.int ns.sum)
    | none => .bad
  | _ => .bad
end
end DL

namespace DL
open PySem PySem.Spec PyProof.Rows L2
open PySem.Builtin.Int (intBits)

/-! ### statements -/
inductive Out where
  | nx (e : Env)
  | rt (d : D)
  | ro (d : D)
  | rm (d : D) (e : Env)
  | bk (e : Env)
  | ct (e : Env)
  | ex (c : String) (fs : List (D × D)) (e : Env)
  | bad

def unown (i : Nat) (e : Env) : Env := match e[i]? with
  | some (some (d, true)) => e.set i (some (d, false))
  | _ => e
/-- these names' lists and dicts are not changed any more -/
def fz : List Nat → Env → Env
  | [], e => e
  | i :: r, e => fz r (unown i e)
@[simp] theorem fz_nil (e : Env) : fz [] e = e := rfl
theorem unown_get (i : Nat) (e : Env) (j : Nat) : (unown i e)[j]? = if j = i then (match e[j]? with | some (some (d, _)) => some (some (d, false)) | z => z) else e[j]? := by
  unfold unown
  by_cases h : j = i
  · subst h
    rw [if_pos rfl]
    cases q : e[j]? with
    | none => simp only [q]
    | some s =>
      have hl : j < e.length := (List.getElem?_eq_some_iff.mp q).1
      cases s with
      | none => simp only [q]
      | some z =>
        obtain ⟨d, o⟩ := z
        cases o with
        | true => simp only []; rw [List.getElem?_set_self hl]
        | false => simp only [q]
  · rw [if_neg h]
    split
    · rw [List.getElem?_set_ne (Ne.symm h)]
    · rfl
theorem unown_length (i : Nat) (e : Env) : (unown i e).length = e.length := by
  unfold unown
  split
  · rw [List.length_set]
  · rfl
theorem fz_length : ∀ (al : List Nat) (e : Env), (fz al e).length = e.length
  | [], e => rfl
  | i :: r, e => by rw [fz, fz_length r, unown_length]
theorem fz_get : ∀ (al : List Nat) (e : Env) (j : Nat) (d : D) (o : Bool), (fz al e)[j]? = some (some (d, o)) → ∃ o', e[j]? = some (some (d, o')) ∧ ((o = o' ∧ (o' = true → j ∉ al)) ∨ (o = false ∧ o' = true ∧ j ∈ al))
  | [], e, j, d, o, h => ⟨o, h, .inl ⟨rfl, fun _ => by simp⟩⟩
  | i :: r, e, j, d, o, h => by
    obtain ⟨o1, h1, h2⟩ := fz_get r (unown i e) j d o h
    rw [unown_get] at h1
    by_cases hj : j = i
    · rw [if_pos hj] at h1
      cases q : e[j]? with
      | none => rw [q] at h1; cases h1
      | some s => cases s with
        | none => rw [q] at h1; cases h1
        | some z =>
          obtain ⟨d', o'⟩ := z
          rw [q] at h1
          cases h1
          rcases h2 with ⟨rfl, _⟩ | ⟨_, z, _⟩
          · cases o' with
            | true => exact ⟨true, rfl, .inr ⟨rfl, rfl, by simp [hj]⟩⟩
            | false => exact ⟨false, rfl, .inl ⟨rfl, fun z => by cases z⟩⟩
          · cases z
    · rw [if_neg hj] at h1
      refine ⟨o1, h1, ?_⟩
      rcases h2 with ⟨a, b⟩ | ⟨a, b, c⟩
      · exact .inl ⟨a, fun z => by simp [hj, b z]⟩
      · exact .inr ⟨a, b, by simp [c]⟩

/-- a def's entry: the caller's part of the heap, and where the lists and dicts stand that are lent to it to be changed -/
structure Bas where
  hp : Hp
  pin : Nat → Option Addr
/-- nothing is lent -/
abbrev Bas.of (H : Hp) : Bas := ⟨H, fun _ => none⟩
/-- the state between two statements: H0, G0 at the def's entry -/
structure StOk (K : PySem.W.Frag) (H0 : Bas) (G0 : Hp) (σ : L2.St) (e : Env) (H G : Hp) : Prop where
  ext : Ext H0.hp G0 H G
  len : σ.length = e.length
  sh : ∀ (i : Nat) d, e[i]? = some (some (d, false)) → ∃ v, σ[i]? = some (some v) ∧ Rep K G d v
  ow : ∀ (i : Nat) d, e[i]? = some (some (d, true)) → ∃ a, σ[i]? = some (some (.ref a)) ∧ H0.hp a = none ∧ G a = none ∧ OwnC K H G d a
  ne : ∀ (i j : Nat) d d' a, e[i]? = some (some (d, true)) → e[j]? = some (some (d', true)) → σ[i]? = some (some (.ref a)) → σ[j]? = some (some (.ref a)) → i = j
  pn : ∀ (i : Nat) a d, H0.pin i = some a → e[i]? = some (some (d, true)) → σ[i]? = some (some (.ref a))
/-- what a reckoning of the names at al may keep -/
def OwnAt (σ : L2.St) (e : Env) (al : List Nat) (b : Addr) : Prop := ∃ (i : Nat) (d : D), i ∈ al ∧ e[i]? = some (some (d, true)) ∧ σ[i]? = some (some (.ref b))
open Classical in
noncomputable def gA (σ : L2.St) (e : Env) (al : List Nat) (H G : Hp) : Hp := fun b => if OwnAt σ e al b then H b else G b
/-- no dict at al is owned -/
def NoDct (al : List Nat) (e : Env) : Prop := ∀ (i : Nat) d, i ∈ al → e[i]? = some (some (d, true)) → d.isDct = false
theorem StOk.exp0 {K : PySem.W.Frag} {H0 : Bas} {G0 H G : Hp} {σ : L2.St} {e : Env} (S : StOk K H0 G0 σ e H G) (al : List Nat) (nd : NoDct al e) :
    ∃ GA, EnvG K (fun i => i ∈ al) σ e H GA ∧ ∀ H' G', Ext H GA H' G' → StOk K H0 G0 σ (fz al e) H' G' := by
  have yes : ∀ {b : Addr}, OwnAt σ e al b → gA σ e al H G b = H b := fun h => if_pos h
  have no : ∀ {b : Addr}, ¬ OwnAt σ e al b → gA σ e al H G b = G b := fun h => if_neg h
  have gown : ∀ {b : Addr}, OwnAt σ e al b → G b = none := fun {b} ⟨i, d, _, h1, h2⟩ => by
    obtain ⟨a, q1, _, q2, _⟩ := S.ow i d h1
    rw [h2] at q1; cases q1; exact q2
  have s1 : Sub G (gA σ e al H G) := fun b o q => by
    by_cases h : OwnAt σ e al b
    · rw [gown h] at q; cases q
    · rw [no h]; exact q
  have s2 : Sub (gA σ e al H G) H := fun b o q => by
    by_cases h : OwnAt σ e al b
    · rw [yes h] at q; exact q
    · rw [no h] at q; exact S.ext.gh _ _ q
  have keep : ∀ (i : Nat) (d : D), i ∈ al → e[i]? = some (some (d, true)) → ∃ v, σ[i]? = some (some v) ∧ Rep K (gA σ e al H G) d v := fun i d hi h => by
    obtain ⟨a, q1, _, _, q5⟩ := S.ow i d h
    exact ⟨_, q1, q5.put (nd i d hi h) s1 (yes ⟨i, d, hi, h, q1⟩)⟩
  refine ⟨gA σ e al H G, ⟨s2, S.len, fun i d o h => ?_⟩, fun H' G' x => ?_⟩
  · cases o with
    | false =>
      obtain ⟨v, q1, q2⟩ := S.sh i d h
      exact ⟨v, q1, fun _ => q2.mono s1, (q2.c S.ext.gh).mono (Sub.refl _) s1⟩
    | true =>
      obtain ⟨a, q1, q2, q3, q5⟩ := S.ow i d h
      refine ⟨_, q1, fun z => ?_, q5.c.mono (Sub.refl _) s1⟩
      rcases z with z | z
      · exact q5.put (nd i d z h) s1 (yes ⟨i, d, z, h, q1⟩)
      · cases z
  · refine ⟨⟨S.ext.hh.trans x.hh, S.ext.gg.trans (s1.trans x.gg), x.gh, fun b z => ?_⟩, by rw [fz_length]; exact S.len, fun i d h => ?_, fun i d h => ?_, fun i j d d' a h1 h2 h3 h4 => ?_, fun i a d hp h => ?_⟩
    · rcases x.new b z with z | z
      · by_cases h : OwnAt σ e al b
        · obtain ⟨i, d, _, h1, h2⟩ := h
          obtain ⟨a, q1, q2, _⟩ := S.ow i d h1
          rw [h2] at q1; cases q1; exact .inr (.inl q2)
        · rw [no h] at z; exact S.ext.new b z
      · exact .inr (z.back S.ext.hh)
    · obtain ⟨o', h1, h2⟩ := fz_get al e i d false h
      rcases h2 with ⟨rfl, _⟩ | ⟨_, rfl, hi⟩
      · obtain ⟨v, q1, q2⟩ := S.sh i d h1
        exact ⟨v, q1, q2.mono (s1.trans x.gg)⟩
      · obtain ⟨v, q1, q2⟩ := keep i d hi h1
        exact ⟨v, q1, q2.mono x.gg⟩
    · obtain ⟨o', h1, h2⟩ := fz_get al e i d true h
      rcases h2 with ⟨rfl, hi⟩ | ⟨z, _⟩
      · obtain ⟨a, q1, q2, q3, q5⟩ := S.ow i d h1
        refine ⟨a, q1, q2, ?_, q5.mono x.hh (s1.trans x.gg)⟩
        cases hg : G' a with
        | none => rfl
        | some u =>
          rcases x.new a (by rw [hg]; simp) with z | z
          · have nown : ¬ OwnAt σ e al a := fun ⟨j, d', hj, w1, w2⟩ => hi rfl (by rw [S.ne i j d d' a h1 w1 q1 w2]; exact hj)
            rw [no nown] at z
            exact absurd q3 z
          · exact absurd z q5.nfr
      · cases z
    · obtain ⟨o1, w1, z1⟩ := fz_get al e i d true h1
      obtain ⟨o2, w2, z2⟩ := fz_get al e j d' true h2
      have e1 : o1 = true := by rcases z1 with ⟨z, _⟩ | ⟨z, _⟩; exact z.symm; cases z
      have e2 : o2 = true := by rcases z2 with ⟨z, _⟩ | ⟨z, _⟩; exact z.symm; cases z
      subst e1 e2
      exact S.ne i j d d' a w1 w2 h3 h4
    · obtain ⟨o1, w1, z1⟩ := fz_get al e i d true h
      have e1 : o1 = true := by rcases z1 with ⟨z, _⟩ | ⟨z, _⟩; exact z.symm; cases z
      subst e1
      exact S.pn i a d hp w1

theorem set_get {α : Type} {e : List α} {i j : Nat} {x y : α} (h : (e.set i x)[j]? = some y) : (j = i ∧ y = x) ∨ (j ≠ i ∧ e[j]? = some y) := by
  by_cases hj : j = i
  · subst hj
    by_cases hl : j < e.length
    · rw [List.getElem?_set_self hl] at h; cases h; exact .inl ⟨rfl, rfl⟩
    · rw [List.getElem?_eq_none (by simpa using hl)] at h; cases h
  · rw [List.getElem?_set_ne (Ne.symm hj)] at h; exact .inr ⟨hj, h⟩
/-! the dicts at al are locked -/
def unownD (i : Nat) (e : Env) : Env := match e[i]? with
  | some (some (.dct t kvs, true)) => e.set i (some (.dct t kvs, false))
  | _ => e
def fzD : List Nat → Env → Env
  | [], e => e
  | i :: r, e => fzD r (unownD i e)
theorem unownD_get (i : Nat) (e : Env) (j : Nat) (d : D) (o : Bool) (h : (unownD i e)[j]? = some (some (d, o))) : ∃ o', e[j]? = some (some (d, o')) ∧ ((o = o' ∧ (o' = true → j = i → d.isDct = false)) ∨ (o = false ∧ o' = true ∧ j = i)) := by
  unfold unownD at h
  split at h
  · rename_i t kvs he
    by_cases hj : j = i
    · subst hj
      have hl : j < e.length := (List.getElem?_eq_some_iff.mp he).1
      rw [List.getElem?_set_self hl] at h
      cases h
      exact ⟨true, he, .inr ⟨rfl, rfl, rfl⟩⟩
    · rw [List.getElem?_set_ne (Ne.symm hj)] at h
      exact ⟨o, h, .inl ⟨rfl, fun _ z => absurd z hj⟩⟩
  · rename_i hn
    refine ⟨o, h, .inl ⟨rfl, fun z w => ?_⟩⟩
    subst z w
    cases d with
    | dct t kvs => exact absurd h (hn t kvs)
    | _ => rfl
theorem fzD_length : ∀ (al : List Nat) (e : Env), (fzD al e).length = e.length
  | [], e => rfl
  | i :: r, e => by
    rw [fzD, fzD_length r]
    unfold unownD
    split
    · rw [List.length_set]
    · rfl
theorem fzD_get : ∀ (al : List Nat) (e : Env) (j : Nat) (d : D) (o : Bool), (fzD al e)[j]? = some (some (d, o)) → ∃ o', e[j]? = some (some (d, o')) ∧ ((o = o' ∧ (o' = true → j ∈ al → d.isDct = false)) ∨ (o = false ∧ o' = true ∧ j ∈ al))
  | [], e, j, d, o, h => ⟨o, h, .inl ⟨rfl, fun _ z => by cases z⟩⟩
  | i :: r, e, j, d, o, h => by
    obtain ⟨o1, h1, h2⟩ := fzD_get r (unownD i e) j d o h
    obtain ⟨o2, h3, h4⟩ := unownD_get i e j d o1 h1
    refine ⟨o2, h3, ?_⟩
    rcases h2 with ⟨rfl, a⟩ | ⟨rfl, rfl, a⟩
    · rcases h4 with ⟨rfl, b⟩ | ⟨rfl, rfl, rfl⟩
      · refine .inl ⟨rfl, fun z w => ?_⟩
        rcases List.mem_cons.mp w with w | w
        · exact b z w
        · exact a z w
      · exact .inr ⟨rfl, rfl, List.mem_cons_self⟩
    · rcases h4 with ⟨rfl, b⟩ | ⟨z, _, _⟩
      · exact .inr ⟨rfl, rfl, List.mem_cons_of_mem _ a⟩
      · cases z
theorem fzD_keep : ∀ (al : List Nat) (e : Env) (j : Nat) (d : D) (o : Bool), e[j]? = some (some (d, o)) → ∃ o', (fzD al e)[j]? = some (some (d, o')) ∧ (o = false → o' = false)
  | [], e, j, d, o, h => ⟨o, h, id⟩
  | i :: r, e, j, d, o, h => by
    have step : ∃ o', (unownD i e)[j]? = some (some (d, o')) ∧ (o = false → o' = false) := by
      unfold unownD
      split
      · rename_i t kvs he
        by_cases hj : j = i
        · subst hj
          have hl : j < e.length := (List.getElem?_eq_some_iff.mp he).1
          rw [he] at h; cases h
          exact ⟨false, List.getElem?_set_self hl, fun _ => rfl⟩
        · exact ⟨o, by rw [List.getElem?_set_ne (Ne.symm hj)]; exact h, id⟩
      · exact ⟨o, h, id⟩
    obtain ⟨o1, h1, h2⟩ := step
    obtain ⟨o2, h3, h4⟩ := fzD_keep r (unownD i e) j d o1 h1
    exact ⟨o2, h3, fun z => h4 (h2 z)⟩
theorem fzD_none : ∀ (al : List Nat) (e : Env) (j : Nat), (∀ d o, e[j]? ≠ some (some (d, o))) → (fzD al e)[j]? = e[j]?
  | [], e, j, h => rfl
  | i :: r, e, j, h => by
    have step : (unownD i e)[j]? = e[j]? := by
      unfold unownD
      split
      · rename_i t kvs he
        by_cases hj : j = i
        · subst hj; exact absurd he (h _ _)
        · rw [List.getElem?_set_ne (Ne.symm hj)]
      · rfl
    rw [fzD, fzD_none r (unownD i e) j (fun d o => by rw [step]; exact h d o), step]
/-- the flags alone are other -/
theorem env_ext {a b : Env} (h : ∀ j : Nat, a[j]? = b[j]?) : a = b := List.ext_getElem? h
theorem fz_is (al : List Nat) (e : Env) (j : Nat) (d : D) (o : Bool) (h : e[j]? = some (some (d, o))) : (fz al e)[j]? = some (some (d, if j ∈ al then false else o)) := by
  induction al generalizing e o with
  | nil => rw [if_neg (by simp)]; exact h
  | cons i r ih =>
    rw [fz]
    have hu : (unown i e)[j]? = some (some (d, if j = i then false else o)) := by
      rw [unown_get]
      by_cases hj : j = i
      · rw [if_pos hj, h, if_pos hj]
      · rw [if_neg hj, h, if_neg hj]
    rw [ih _ _ hu]
    by_cases h1 : j ∈ r
    · rw [if_pos h1, if_pos (List.mem_cons_of_mem _ h1)]
    · rw [if_neg h1]
      by_cases h2 : j = i
      · rw [if_pos h2, if_pos (by simp [h2])]
      · rw [if_neg h2, if_neg (by simp [h1, h2])]
theorem fz_none (al : List Nat) (e : Env) (j : Nat) (h : ∀ d o, e[j]? ≠ some (some (d, o))) : (fz al e)[j]? = e[j]? := by
  induction al generalizing e with
  | nil => rfl
  | cons i r ih =>
    have step : (unown i e)[j]? = e[j]? := by
      rw [unown_get]
      by_cases hj : j = i
      · rw [if_pos hj]
        split
        · rename_i d o he; exact absurd he (h d o)
        · rfl
      · rw [if_neg hj]
    rw [fz, ih _ (fun d o => by rw [step]; exact h d o), step]
theorem fz_fzD (al : List Nat) (e : Env) : fz al (fzD al e) = fz al e := env_ext fun j => by
  by_cases h : ∃ d o, e[j]? = some (some (d, o))
  · obtain ⟨d, o, h⟩ := h
    obtain ⟨o1, h1, h2⟩ := fzD_keep al e j d o h
    obtain ⟨o2, h3, h4⟩ := fzD_get al e j d o1 h1
    rw [h] at h3; cases h3
    rw [fz_is al _ j d o1 h1, fz_is al e j d o h]
    by_cases hj : j ∈ al
    · rw [if_pos hj, if_pos hj]
    · rw [if_neg hj, if_neg hj]
      rcases h4 with ⟨rfl, _⟩ | ⟨_, _, z⟩
      · rfl
      · exact absurd z hj
  · have n : ∀ d o, e[j]? ≠ some (some (d, o)) := fun d o z => h ⟨d, o, z⟩
    have n2 := fzD_none al e j n
    rw [fz_none al _ j (fun d o => by rw [n2]; exact n d o), fz_none al e j n, n2]
theorem fzD_nd (al : List Nat) (e : Env) : NoDct al (fzD al e) := fun i d hi h => by
  obtain ⟨o', h1, h2⟩ := fzD_get al e i d true h
  rcases h2 with ⟨rfl, z⟩ | ⟨z, _⟩
  · exact z rfl hi
  · cases z
theorem StOk.lock {K : PySem.W.Frag} {H0 : Bas} {G0 : Hp} {σ : L2.St} : ∀ (al : List Nat) {e : Env} {H G : Hp}, StOk K H0 G0 σ e H G → LockT (fun H1 => ∃ G1, StOk K H0 G0 σ (fzD al e) H1 G1) H
  | [], _, _, G, S => .here ⟨G, S⟩
  | i :: r, e, H, G, S => by
    have step : LockT (fun H1 => ∃ G1, StOk K H0 G0 σ (unownD i e) H1 G1) H := by
      unfold unownD
      split
      · rename_i t kvs he
        obtain ⟨a, q1, q2, q3, q5⟩ := S.ow i _ he
        obtain ⟨u, hu, mu, _⟩ := q5.lock rfl (Sub.refl G)
        refine .lock hu mu fun od => .here ⟨upd G a (.frz od u), ?_⟩
        have sg : Sub G (upd G a (.frz od u)) := Sub.upd q3
        have n0 : ∀ {b o}, H0.hp b = some o → b ≠ a := fun {b o} z w => by rw [w, q2] at z; cases z
        refine ⟨⟨fun b o z => by rw [upd_ne (n0 z)]; exact S.ext.hh _ _ z, S.ext.gg.trans sg, fun b o z => ?_, fun b z => ?_⟩, by rw [List.length_set]; exact S.len, fun j d' h => ?_, fun j d' h => ?_, fun j k d1 d2 b h1 h2 h3 h4 => ?_, fun j b d' hp h => ?_⟩
        · by_cases hb : b = a
          · subst hb; rw [upd_same] at z ⊢; exact z
          · rw [upd_ne hb] at z ⊢; exact S.ext.gh _ _ z
        · by_cases hb : b = a
          · subst hb; exact .inr (.inl q2)
          · rw [upd_ne hb] at z; exact S.ext.new b z
        · rcases set_get h with ⟨rfl, z⟩ | ⟨hj, z⟩
          · cases z
            obtain ⟨u', hu', _, k⟩ := q5.lock rfl sg
            rw [hu] at hu'; cases hu'
            exact ⟨_, q1, k od upd_same⟩
          · obtain ⟨v, w1, w2⟩ := S.sh j d' z
            exact ⟨v, w1, w2.mono sg⟩
        · rcases set_get h with ⟨_, z⟩ | ⟨hj, z⟩
          · cases z
          · obtain ⟨b, w1, w2, w3, w4⟩ := S.ow j d' z
            have nb : b ≠ a := fun q => hj (S.ne j i d' _ a z he (by rw [w1, q]) q1)
            exact ⟨b, w1, w2, by rw [upd_ne nb]; exact w3, w4.mono' (fun o' z => by rw [upd_ne nb]; exact z) sg⟩
        · rcases set_get h1 with ⟨_, z⟩ | ⟨hj, z1⟩
          · cases z
          · rcases set_get h2 with ⟨_, z⟩ | ⟨hk, z2⟩
            · cases z
            · exact S.ne j k d1 d2 b z1 z2 h3 h4
        · rcases set_get h with ⟨_, z⟩ | ⟨hj, z⟩
          · cases z
          · exact S.pn j b d' hp z
      · exact .here ⟨G, S⟩
    exact step.bind fun H1 ⟨G1, S1⟩ => StOk.lock r S1
/-- a reckoning's state: the dicts that are handed on are locked -/
theorem StOk.exp {K : PySem.W.Frag} {H0 : Bas} {G0 H G : Hp} {σ : L2.St} {e : Env} (S : StOk K H0 G0 σ e H G) (al : List Nat) :
    LockT (fun H1 => ∃ G1 GA, StOk K H0 G0 σ (fzD al e) H1 G1 ∧ EnvG K (fun i => i ∈ al) σ e H1 GA ∧ ∀ H' G', Ext H1 GA H' G' → StOk K H0 G0 σ (fz al e) H' G') H :=
  (S.lock al).imp fun H1 ⟨G1, S1⟩ => by
    obtain ⟨GA, E, nxt⟩ := S1.exp0 al (fzD_nd al e)
    refine ⟨G1, GA, S1, ⟨E.sub, by rw [E.len, fzD_length], fun i d o h => ?_⟩, fun H' G' x => by rw [← fz_fzD]; exact nxt H' G' x⟩
    obtain ⟨o1, h1, h2⟩ := fzD_keep al e i d o h
    obtain ⟨v, w1, w2, w3⟩ := E.val i d o1 h1
    exact ⟨v, w1, fun z => w2 (z.imp id h2), w3⟩

/-! a name is stored -/
section
variable {K : PySem.W.Frag} {H0 : Bas} {G0 H G : Hp} {σ : L2.St} {e : Env}
theorem StOk.lt (S : StOk K H0 G0 σ e H G) {i : Nat} {s : Sl} {x : Sl} (h : (e.set i x)[i]? = some s) : i < σ.length := by
  by_cases hl : i < e.length
  · rw [S.len]; exact hl
  · rw [List.getElem?_eq_none (by simpa using hl)] at h; cases h
theorem StOk.set (S : StOk K H0 G0 σ e H G) (i : Nat) {d : D} {v : V} (r : Rep K G d v) : StOk K H0 G0 (σ.set i (some v)) (e.set i (some (d, false))) H G := by
  refine ⟨S.ext, by rw [List.length_set, List.length_set]; exact S.len, fun j d' h => ?_, fun j d' h => ?_, fun j k d1 d2 a h1 h2 h3 h4 => ?_, fun j a d' hp h => ?_⟩
  · rcases set_get h with ⟨rfl, z⟩ | ⟨hj, z⟩
    · cases z
      exact ⟨v, List.getElem?_set_self (S.lt h), r⟩
    · obtain ⟨w, q1, q2⟩ := S.sh j d' z
      exact ⟨w, by rw [List.getElem?_set_ne (Ne.symm hj)]; exact q1, q2⟩
  · rcases set_get h with ⟨_, z⟩ | ⟨hj, z⟩
    · cases z
    · obtain ⟨a, q1, q2⟩ := S.ow j d' z
      exact ⟨a, by rw [List.getElem?_set_ne (Ne.symm hj)]; exact q1, q2⟩
  · rcases set_get h1 with ⟨_, z⟩ | ⟨hj, z1⟩
    · cases z
    · rcases set_get h2 with ⟨_, z⟩ | ⟨hk, z2⟩
      · cases z
      · rw [List.getElem?_set_ne (Ne.symm hj)] at h3
        rw [List.getElem?_set_ne (Ne.symm hk)] at h4
        exact S.ne j k d1 d2 a z1 z2 h3 h4
  · rcases set_get h with ⟨_, z⟩ | ⟨hj, z⟩
    · cases z
    · rw [List.getElem?_set_ne (Ne.symm hj)]; exact S.pn j a d' hp z
end
end DL

namespace DL
open PySem PySem.Spec PyProof.Rows L2
open PySem.Builtin.Int (intBits)

def SPost (K : PySem.W.Frag) (mg : Str → Option Value) (W : WX) (H0 : Bas) (G0 : Hp) (r : Out) (Z : Ends) : Prop := match r with
  | .nx e' => ∀ σ' H' G', StOk K H0 G0 σ' e' H' G' → Z.nx σ' H'
  | .bk e' => ∀ σ' H' G', StOk K H0 G0 σ' e' H' G' → Z.bk σ' H'
  | .ct e' => ∀ σ' H' G', StOk K H0 G0 σ' e' H' G' → Z.ct σ' H'
  | .rt d => ∀ v H' G', Ext H0.hp G0 H' G' → Rep K G' d v → Z.rt v H'
  | .ro d => ∀ a H' G', Ext H0.hp G0 H' G' → H0.hp a = none → G' a = none → OwnC K H' G' d a → Z.rt (.ref a) H'
  | .rm d e' => ∀ v σ' H' G', StOk K H0 G0 σ' e' H' G' → Rep K G' d v → Z.rt v H'
  | .ex c fs e' => ∀ cls o σ' H' G' H'', StOk K H0 G0 σ' e' H' G' → Sub H' H'' → IsExc K mg c fs cls o H' H'' → W cls o σ' H''
  | .bad => False
def tS (K : PySem.W.Frag) (mg : Str → Option Value) (W : WX) (H0 : Bas) (G0 : Hp) (f : Env → Out) : TS := fun Z σ H => ∃ e G, StOk K H0 G0 σ e H G ∧ SPost K mg W H0 G0 (f e) Z
abbrev DS (X : Cx) (W : WX) (H0 : Bas) (G0 : Hp) (st : Stmt) (f : Env → Out) : Prop := PS X st (tS X.K X.mg W H0 G0 f)
abbrev DSs (X : Cx) (W : WX) (H0 : Bas) (G0 : Hp) (st : List Stmt) (f : Env → Out) : Prop := PSs X st (tS X.K X.mg W H0 G0 f)

/-- a reckoning, then what follows -/
def sE {α : Type} (al : List Nat) (f : Env → Res α) (k : α → Env → Out) : Env → Out := fun e => match f e with
  | .ok a => k a (fz al e)
  | .exc c fs => .ex c fs (fz al e)
  | .bad => .bad
section
variable {X : Cx} {W : WX} {H0 : Bas} {G0 : Hp}
theorem sE_step {al : List Nat} {α : Type} {f : Env → Res α} {k : α → Env → Out} {σ : L2.St} {H : Hp} {Z : Ends} (h : tS X.K X.mg W H0 G0 (sE al f k) Z σ H) :
    LockT (fun H => ∃ e G, EnvG X.K (fun i => i ∈ al) σ e H G ∧ PostG X.K X.mg (fun c o H' => W c o σ H') H G (f e) fun a H' G' => StOk X.K H0 G0 σ (fz al e) H' G' ∧ SPost X.K X.mg W H0 G0 (k a (fz al e)) Z) H := by
  obtain ⟨e, G, S, p⟩ := h
  refine (S.exp al).imp fun H ⟨G1, GA, S1, E, nxt⟩ => ?_
  refine ⟨e, GA, E, ?_⟩
  unfold sE at p
  cases hr : f e with
  | ok a =>
    rw [hr] at p
    exact fun H' G' x => ⟨nxt H' G' x, p⟩
  | exc c fs =>
    rw [hr] at p
    exact fun cls o H' s ix => p cls o σ H GA H' (nxt H GA (Ext.refl E.sub)) s ix
  | bad =>
    rw [hr] at p
    exact p.elim

/-! ### the plain statements -/
variable {al : List Nat} {st : Stmt} {rest : List Stmt} {ex : Expr} {pos : Pos}
def sSkip : Env → Out := fun e => .nx e
def sSeq (f g : Env → Out) : Env → Out := fun e => match f e with
  | .nx e' => g e'
  | r => r
theorem dss_nil : DSs X W H0 G0 [] sSkip := pss_nil.imp fun Z σ H ⟨e, G, S, p⟩ => p σ H G S
theorem dss_cons {f g : Env → Out} (h1 : DS X W H0 G0 st f) (h2 : DSs X W H0 G0 rest g) : DSs X W H0 G0 (st :: rest) (sSeq f g) :=
  (pss_cons h1 h2).imp fun Z σ H ⟨e, G, S, p⟩ => ⟨e, G, S, by
    unfold sSeq at p
    cases hr : f e with
    | nx e' => rw [hr] at p; exact fun σ' H' G' S' => ⟨e', G', S', p⟩
    | rt d => rw [hr] at p; exact p
    | ro d => rw [hr] at p; exact p
    | rm d e' => rw [hr] at p; exact p
    | bk e' => rw [hr] at p; exact p
    | ct e' => rw [hr] at p; exact p
    | ex c fs e' => rw [hr] at p; exact p
    | bad => rw [hr] at p; exact p⟩
def sBreak : Env → Out := fun e => .bk e
def sCont : Env → Out := fun e => .ct e
def sRet (al : List Nat) (f : Env → Res D) : Env → Out := sE al f fun d _ => .rt d
theorem ds_ret {f : Env → Res D} (h : DE X W (fun i => i ∈ al) ex f) : DS X W H0 G0 (.Return (some ex) pos) (sRet al f) :=
  (ps_ret h).lk fun Z σ H hq => (sE_step hq).imp fun H ⟨e, G, E, p⟩ => by
    exact ⟨e, G, E, p.imp fun d H' G' x ⟨S, q⟩ v r => q v H' G' S.ext r⟩
/-- return x, x a list or dict of its own -/
def sRetO (i : Nat) : Env → Out := fun e => match e[i]? with
  | some (some (d, true)) => .ro d
  | some (some (d, false)) => .rt d
  | _ => .bad
/-- return of a new list or dict -/
def sRetF (al : List Nat) (f : Env → Res D) : Env → Out := sE al f fun d _ => .ro d
def sRetN : Env → Out := fun _ => .rt .non
def sIf (al : List Nat) (ft : Env → Res Bool) (f g : Env → Out) : Env → Out := sE al ft fun b e => if b = true then f e else g e
theorem ds_if {c : Expr} {a b : List Stmt} {ft : Env → Res Bool} {f g : Env → Out} (hc : DT X W (fun i => i ∈ al) c ft) (ha : DSs X W H0 G0 a f) (hb : DSs X W H0 G0 b g) : DS X W H0 G0 (.If c a b pos) (sIf al ft f g) :=
  (ps_if hc ha hb).lk fun Z σ H hq => (sE_step hq).imp fun H ⟨e, G, E, p⟩ => by
    refine ⟨e, G, E, p.imp fun k H' G' x ⟨S, q⟩ => ?_⟩
    cases k with
    | true => rw [if_pos rfl] at q ⊢; exact ⟨_, G', S, q⟩
    | false => rw [if_neg Bool.false_ne_true] at q ⊢; exact ⟨_, G', S, q⟩
def sDrop (al : List Nat) (f : Env → Res D) : Env → Out := sE al f fun _ e => .nx e
/-- x = e -/
def sSet (al : List Nat) (i : Nat) (f : Env → Res D) : Env → Out := sE al f fun d e => .nx (e.set i (some (d, false)))
theorem ds_set {i : Nat} {x : Str} {pos' : Pos} {f : Env → Res D} (hN : X.N.Nodup) (hi : X.N[i]? = some x) (hx : Loc X.env.scope x) (h : DE X W (fun i => i ∈ al) ex f) (hs : swapsWith ex (some (.Name x pos')) pos.line X.env = pure false := by rfl)
    (hf : X.fn x = true ∨ X.env.scope.names.lookup x = some .local := by first | exact .inl rfl | exact .inr rfl | assumption) : DS X W H0 G0 (.Assign [.Name x pos'] ex pos) (sSet al i f) :=
  (ps_set hN hi hx h hs hf).lk fun Z σ H hq => (sE_step hq).imp fun H ⟨e, G, E, p⟩ => by
    exact ⟨e, G, E, p.imp fun d H' G' _ ⟨S, q⟩ v r => q _ H' G' (S.set i r)⟩
/-- x = a new list or dict, to be changed -/
def sSetF (al : List Nat) (i : Nat) (f : Env → Res D) : Env → Out := sE al f fun d e => .nx (e.set i (some (d, true)))
/-! ### a, b = e -/
inductive Pat where
  | nm (i : Nat)
  | tp (ps : List Pat)
mutual
def Pat.bind : Pat → D → Env → Res Env
  | .nm i, d, e => .ok (e.set i (some (d, false)))
  | .tp ps, d, e => match d with
    | .tup ds => Pat.binds ps ds e
    | _ => .bad
def Pat.binds : List Pat → List D → Env → Res Env
  | [], [], e => .ok e
  | p :: ps, d :: ds, e => (Pat.bind p d e).bind fun e' => Pat.binds ps ds e'
  | _, _, _ => .bad
end
mutual
def Pat.slots : Pat → List Nat
  | .nm i => [i]
  | .tp ps => Pat.slotss ps
def Pat.slotss : List Pat → List Nat
  | [] => []
  | p :: ps => Pat.slots p ++ Pat.slotss ps
end
/-- what stays where a name of these is stored -/
def Setable (K : PySem.W.Frag) (sl : List Nat) (R : L2.St → Env → Hp → Hp → Prop) : Prop := ∀ σ e H G i d v, i ∈ sl → R σ e H G → Rep K G d v → R (σ.set i (some v)) (e.set i (some (d, false))) H G
/-- a target's reading: it stores by the pattern -/
def DG (X : Cx) (tg : Expr) (p : Pat) : Prop :=
  ∃ g, PG X tg g ∧ ∀ (R : L2.St → Env → Hp → Hp → Prop), Setable X.K p.slots R → ∀ (v : V) (σ : L2.St) (H G : Hp) (d : D) (e e' : Env) (Q : L2.St → Hp → Prop), R σ e H G → Sub G H → Rep X.K G d v → p.bind d e = .ok e' → (∀ σ', R σ' e' H G → Q σ' H) → g v σ H Q
theorem dg_name {i : Nat} {x : Str} (hN : X.N.Nodup) (hi : X.N[i]? = some x) (hx : Loc X.env.scope x) (hf : X.fn x = true ∨ X.env.scope.names.lookup x = some .local := by first | exact .inl rfl | exact .inr rfl | assumption) : DG X (.Name x pos) (.nm i) :=
  ⟨_, pg_name hN hi hx hf, fun R hR v σ H G d e e' Q S sg r h q => by
    cases h
    exact q _ (hR σ e H G i d v (by simp [Pat.slots]) S r)⟩
theorem st_setable {K : PySem.W.Frag} {sl : List Nat} : Setable K sl (StOk K H0 G0) := fun σ e H G i d v _ S r => S.set i r
def sAsg (al : List Nat) (p : Pat) (f : Env → Res D) : Env → Out := sE al f fun d e => match p.bind d e with
  | .ok e' => .nx e'
  | _ => .bad
/-! ### lists changed in place -/
/-- the list that the name i holds, to be changed -/
def ownL (i : Nat) (e : Env) (k : List D → Out) : Out := match e[i]? with
  | some (some (.lst xs, true)) => k xs
  | _ => .bad
end
end DL

namespace DL
open PySem PySem.Spec PyProof.Rows L2
open PySem.Builtin.Int (intBits)
section
variable {X : Cx} {W : WX} {H0 : Bas} {G0 : Hp} {al : List Nat} {ex : Expr} {es : List Expr} {pos apos cpos p1 p2 : Pos}
def sMut (al : List Nat) (i : Nat) (g : List D → List D → Option (List D)) (fs : Env → Res (List D)) : Env → Out := fun e => ownL i (fz al e) fun xs => sE al fs (fun ds e' => match g xs ds with
  | some xs' => .nx (e'.set i (some (.lst xs', true)))
  | none => .bad) e
/-- xs[i] = v -/
def sPutL (al : List Nat) (i : Nat) (fk fv : Env → Res D) : Env → Out := fun e => ownL i (fz al e) fun xs => sE al (fun e => (fv e).bind fun v => (fk e).bind fun k => .ok (k, v)) (fun kv e' => match kv.1 with
  | .int k => match ixN xs.length k with
    | some j => .nx (e'.set i (some (.lst (xs.set j kv.2), true)))
    | none => .bad
  | _ => .bad) e
/-! ### what a loop walks -/
/-- J yields ds; what is walked is read in B, its items in G -/
structure WalkOf (K : PySem.W.Frag) (J : It) (ds : List D) (B G : Hp) : Prop where
  go : ∀ H i, Sub B H → i < ds.length → J.go i H
  stop : ∀ H, Sub B H → J.stop ds.length H
  yld : ∀ H G2 i x H', Sub B H → Sub G G2 → Sub G2 H → i < ds.length → J.yld i H x H' → ∃ d G', ds[i]? = some d ∧ Ext H G2 H' G' ∧ Rep K G' d x
def tI (K : PySem.W.Frag) (mg : Str → Option Value) (W : WX) (A : Nat → Prop) (f : Env → Res (List D)) : TI := fun σ H R => ∃ e G, EnvG K A σ e H G ∧ PostG K mg (fun c o H' => W c o σ H') H G (f e) fun ds H' G' => ∀ J, WalkOf K J ds G' G' → R J H'
def tIR (K : PySem.W.Frag) (mg : Str → Option Value) (W : WX) (A : Nat → Prop) (f : Env → Res (List D)) : TI := fun σ H R => ∃ e G, EnvG K A σ e H G ∧ PostG K mg (fun c o H' => W c o σ H') H G (f e) fun ds H' G' => ∀ J, WalkOf K J ds H' G' → R J H'
abbrev DI (X : Cx) (W : WX) (A : Nat → Prop) (tg ex : Expr) (f : Env → Res (List D)) : Prop := PI X tg ex (tI X.K X.mg W A f)
abbrev DIR (X : Cx) (W : WX) (A : Nat → Prop) (tg ex : Expr) (f : Env → Res (List D)) : Prop := PI X tg ex (tIR X.K X.mg W A f)
theorem walk_range {K : PySem.W.Frag} {B G : Hp} (lo : Int) (n : Nat) : WalkOf K (Itr lo n) ((List.range n).map fun i => D.int (lo + (i : Nat))) B G where
  go := fun H i h hi => by
    show i < n
    simpa using hi
  stop := fun H h => by
    show n ≤ _
    simp
  yld := fun H G2 i x H' h g g2 hi y => by
    obtain ⟨e, y⟩ := y
    subst e
    have hi' : i < n := by simpa using hi
    exact ⟨.int (lo + i), G2, by simp [hi'], Ext.refl g2, y⟩
/-- over a list or tuple -/
def iSeq (f : Env → Res D) : Env → Res (List D) := fun e => (f e).bind fun d => match d with
  | .lst xs => .ok xs
  | .tup xs => .ok xs
  | .con xs => .ok xs
  | _ => .bad
variable {A : Nat → Prop}
theorem WalkOf.low {K : PySem.W.Frag} {J : It} {ds : List D} {B B' G : Hp} (h : WalkOf K J ds B G) (s : Sub B B') : WalkOf K J ds B' G :=
  ⟨fun H i z => h.go H i (s.trans z), fun H z => h.stop H (s.trans z), fun H G2 i x H' z => h.yld H G2 i x H' (s.trans z)⟩
theorem dir_of {tg : Expr} {f : Env → Res (List D)} (h : DI X W A tg ex f) : DIR X W A tg ex f :=
  h.imp fun σ H Q ⟨e, G, E, p⟩ => ⟨e, G, E, p.imp fun ds H1 G1 x1 q J w => q J (w.low x1.gh)⟩
/-! ranges -/
def rangeD (lo hi : Int) : List D := (List.range (hi - lo).toNat).map fun i => D.int (lo + (i : Nat))
def iRange1 (f : Env → Res D) : Env → Res (List D) := fun e => (f e).bind fun d => match d with
  | .int n => if -(2 ^ 62) ≤ n ∧ n < 2 ^ 62 then .ok (rangeD 0 n) else .bad
  | _ => .bad
def iRange2 (f g : Env → Res D) : Env → Res (List D) := fun e => (f e).bind fun d => (g e).bind fun d2 => match d, d2 with
  | .int m, .int n => if -(2 ^ 62) ≤ m ∧ m < 2 ^ 62 ∧ -(2 ^ 62) ≤ n ∧ n < 2 ^ 62 then .ok (rangeD m n) else .bad
  | _, _ => .bad
theorem di_range1 {tg a : Expr} {p : Pos} {f : Env → Res D} (hg : Gl X "range") (hm : X.mg "range" = none) (ha : DE X W A a f) (hs : starEach [a] X.env = [(false, eval a X.env)] := by rfl) : DI X W A tg (.Call (.Name "range" p) [a] [] pos) (iRange1 f) :=
  (pi_range1 hg hm (pa_cons ha pa_nil hs) hs).imp fun σ H Q ⟨e, G, E, p⟩ => ⟨e, G, E, p.split.imp fun d H1 G1 x1 p1 v rv => by
    cases d with
    | int n =>
      have ev : v = .int n := rv
      subst ev
      dsimp only at p1
      by_cases hc : -(2 ^ 62) ≤ n ∧ n < 2 ^ 62
      · rw [if_pos hc] at p1
        refine ⟨n, rfl, hc.1, hc.2, p1.here x1.gh _ ?_⟩
        have : rangeD 0 n = (List.range n.toNat).map fun i => D.int (0 + (i : Nat)) := by unfold rangeD; rw [Int.sub_zero]
        rw [this]
        exact walk_range 0 n.toNat
      · rw [if_neg hc] at p1; exact p1.elim
    | _ => exact (show False from p1).elim⟩
/-! ### for -/
theorem StOk.step {K : PySem.W.Frag} {σ : L2.St} {e : Env} {H G H' G' : Hp} (S2 : StOk K H0 G0 σ e H G) (x3 : Ext H G H' G') : StOk K H0 G0 σ e H' G' := by
  refine ⟨S2.ext.trans x3, S2.len, fun j d' h => ?_, fun j d' h => ?_, S2.ne, S2.pn⟩
  · obtain ⟨v, w1, w2⟩ := S2.sh j d' h
    exact ⟨v, w1, w2.mono x3.gg⟩
  · obtain ⟨a, w1, w2, w3, w4⟩ := S2.ow j d' h
    refine ⟨a, w1, w2, ?_, w4.mono x3.hh x3.gg⟩
    cases hga : G' a with
    | none => rfl
    | some u =>
      rcases x3.new a (by rw [hga]; simp) with z | z
      · exact absurd w3 z
      · exact absurd z w4.nfr
theorem Ext.down {H G1 H1 G G' H' : Hp} (x : Ext H G H' G') (y : Ext H G1 H1 G) : Ext H G1 H' G' :=
  ⟨x.hh, y.gg.trans x.gg, x.gh, fun b z => by
    rcases x.new b z with z | z
    · exact y.new b z
    · exact .inr z⟩
theorem StOk.down {K : PySem.W.Frag} {σ : L2.St} {e : Env} {H G H1 G1 : Hp} (S : StOk K H0 G1 σ e H G) (y : Ext H0.hp G0 H1 G1) : StOk K H0 G0 σ e H G := ⟨S.ext.down y, S.len, S.sh, S.ow, S.ne, S.pn⟩
theorem StOk.up {K : PySem.W.Frag} {σ : L2.St} {e : Env} {H G G1 : Hp} (S : StOk K H0 G0 σ e H G) (s : Sub G1 G) (h : ∀ b, G b ≠ none → G1 b ≠ none ∨ Fr1 H0.hp b := by exact fun b z => .inl z) : StOk K H0 G1 σ e H G := ⟨⟨S.ext.hh, s, S.ext.gh, h⟩, S.len, S.sh, S.ow, S.ne, S.pn⟩
/-- the turns -/
def turns (p : Pat) (body : Env → Out) : List D → Env → Out
  | [], e => .nx e
  | d :: ds, e => match p.bind d e with
    | .ok e1 => match body e1 with
      | .nx e2 => turns p body ds e2
      | .ct e2 => turns p body ds e2
      | .bk e2 => .nx e2
      | .rt d => .rt d
      | .ro d => .ro d
      | .rm d e2 => .rm d e2
      | .ex c fs e2 => .ex c fs e2
      | .bad => .bad
    | _ => .bad
def sFor (al : List Nat) (p : Pat) (fi : Env → Res (List D)) (body : Env → Out) : Env → Out := sE al fi fun ds e => turns p body ds e
theorem ds_for {tg iter : Expr} {body : List Stmt} {p : Pat} {fi : Env → Res (List D)} {fb : Env → Out} (hp : PassesOwn (model X.prog X.w) X.A X.env X.xe) (hc : X.calm = true) (hi : DI X W (fun i => i ∈ al) tg iter fi) (hg : DG X tg p) (hb : ∀ G1, DSs X W H0 G1 body fb)
    (hs : ∀ x, foldedSetIterable iter X.env x = pure x := by intro _; rfl) : DS X W H0 G0 (.For tg iter body [] pos) (sFor al p fi fb) := by
  obtain ⟨g, g1, g2⟩ := hg
  -- the body's reading, whatever stays through it
  have hb' : PSs X body fun Z σ H => ∃ G1, tS X.K X.mg W H0 G1 fb Z σ H := ⟨fun pins s σ H D I ⟨G1, q⟩ => (hb G1).run pins s σ H D I q⟩
  refine (ps_for hp hc hi g1 hb' hs).lk fun Z σ H hq => (sE_step hq).imp fun H ⟨e, G, E, p1⟩ => ?_
  refine ⟨e, G, E, p1.imp fun ds H1 G1 x1 ⟨S1, q1⟩ J w => ?_⟩
  -- what holds between the turns
  refine ⟨fun i m σ2 H2 => m = ds.length - i ∧ i ≤ ds.length ∧ ∃ e2 G2, StOk X.K H0 G0 σ2 e2 H2 G2 ∧ Sub G1 G2 ∧ SPost X.K X.mg W H0 G0 (turns p fb (ds.drop i) e2) Z,
    ⟨ds.length, rfl, Nat.zero_le _, fz al e, G1, S1, Sub.refl _, q1⟩, ?_⟩
  rintro i m σ2 H2 ⟨rfl, hi, e2, G2, S2, g12, q2⟩
  by_cases hlt : i < ds.length
  · refine .inr ⟨w.go H2 i (g12.trans S2.ext.gh) hlt, fun σ3 H3 => ∃ e3 G3, StOk X.K H0 G0 σ3 e3 H3 G3 ∧ Sub G1 G3 ∧ SPost X.K X.mg W H0 G0 (turns p fb (ds.drop (i + 1)) e3) Z, ?_, ?_⟩
    · rintro σ3 H3 ⟨e3, G3, S3, g13, q3⟩
      exact ⟨ds.length - (i + 1), by omega, rfl, hlt, e3, G3, S3, g13, q3⟩
    · intro x H3 y
      obtain ⟨d, G3, hd, x3, rd⟩ := w.yld H2 G2 i x H3 (g12.trans S2.ext.gh) g12 S2.ext.gh hlt y
      have S3 : StOk X.K H0 G0 σ2 e2 H3 G3 := S2.step x3
      have e0 : ds.drop i = d :: ds.drop (i + 1) := by
        rw [List.drop_eq_getElem_cons hlt]
        have : ds[i] = d := by
          have := List.getElem?_eq_getElem hlt
          rw [hd] at this
          exact (Option.some.inj this).symm
        rw [this]
      rw [e0] at q2
      dsimp only [turns] at q2
      cases hb : p.bind d e2 with
      | exc c fs => rw [hb] at q2; exact q2.elim
      | bad => rw [hb] at q2; exact q2.elim
      | ok e3 =>
        rw [hb] at q2
        dsimp only at q2
        refine g2 _ st_setable x σ2 H3 G3 d e2 e3 _ S3 S3.ext.gh rd hb fun σ4 S4 => ⟨G3, e3, G3, S4.up (Sub.refl _), ?_⟩
        have g14 : Sub G1 G3 := g12.trans x3.gg
        cases hr : fb e3 with
        | nx e4 =>
          rw [hr] at q2
          exact fun σ5 H5 G5 S5 => ⟨e4, G5, S5.down S4.ext, g14.trans S5.ext.gg, q2⟩
        | ct e4 =>
          rw [hr] at q2
          exact fun σ5 H5 G5 S5 => ⟨e4, G5, S5.down S4.ext, g14.trans S5.ext.gg, q2⟩
        | bk e4 => rw [hr] at q2; exact fun σ5 H5 G5 S5 => q2 σ5 H5 G5 (S5.down S4.ext)
        | rt d => rw [hr] at q2; exact fun v H5 G5 x5 => q2 v H5 G5 (x5.down S4.ext)
        | ro d => rw [hr] at q2; exact fun a H5 G5 x5 => q2 a H5 G5 (x5.down S4.ext)
        | rm d e4 => rw [hr] at q2; exact fun v σ5 H5 G5 S5 => q2 v σ5 H5 G5 (S5.down S4.ext)
        | ex c fs e4 => rw [hr] at q2; exact fun cls o σ5 H5 G5 H6 S5 => q2 cls o σ5 H5 G5 H6 (S5.down S4.ext)
        | bad => rw [hr] at q2; exact q2.elim
  · have ei : i = ds.length := by omega
    subst ei
    refine .inl ⟨w.stop H2 (g12.trans S2.ext.gh), ?_⟩
    rw [List.drop_length] at q2
    exact q2 σ2 H2 G2 S2
end
end DL

namespace DL
open PySem PySem.Spec PyProof.Rows L2
open PySem.Builtin.Int (intBits)

/-! ### while -/
section
variable {X : Cx} {W : WX} {H0 : Bas} {G0 : Hp} {al : List Nat} {ex : Expr} {es : List Expr} {pos apos cpos p1 p2 : Pos}
/-! ### calls of defs -/
/-- what a def of so many parameters promises: what F says -/
def spD (K : PySem.W.Frag) (mg : Str → Option Value) (n : Nat) (F : List D → Res D) : Sp := fun vs H Q E => vs.length = n ∧ ∃ ds G, Sub G H ∧ RepL K G ds vs ∧ PostG K mg E H G (F ds) fun d H' G' => ∀ v, Rep K G' d v → Q v H'
structure CallOk (P : Program) (w : World) (K : PySem.W.Frag) (mg : Str → Option Value) (base : Heap) (k : Nat) (x : Str) (ps : List Str) (F : List D → Res D) : Prop where
  ok : ∃ f fd, mg x = some (.ref f) ∧ PySem.W.keepIn K (.ref f) = true ∧ Binds K fd ps [] ∧ FnOk P w K mg base (L2.CX P w) k f fd ps (spD K mg ps.length F)
def eCall (F : List D → Res D) (fs : Env → Res (List D)) : Env → Res D := fun e => (fs e).bind F
theorem de_call {A : Nat → Prop} {x : Str} {p : Pos} {k : Nat} {ps : List Str} {F : List D → Res D} {fs : Env → Res (List D)} (c : CallOk X.prog X.w X.K X.mg X.base k x ps F) (hr : Room k X.A) (hg : Gl X x) (tk : Takes X W) (ha : DA X W A (ex :: es) fs) (hl : LenIs fs ps.length) (hl2 : ∀ e ds, fs e = .ok ds → ps.length ≤ ds.length)
    (hdb : (x == ("__debug__" : Str)) = false := by decide) (he : starEach (ex :: es) X.env = (false, eval ex X.env) :: starEach es X.env := by rfl) (hpl : (backTo pos (starEach es X.env)).any (·.1) = false := by rfl) :
    DE X W A (.Call (.Name x p) (ex :: es) [] pos) (eCall F fs) := by
  obtain ⟨f, fd, hm, hk, hb, hF⟩ := c.ok
  refine (pe_callS hF hr hg hm hk hb (fun σ => passAt tk σ) ha hdb he hpl).imp fun σ H Q ⟨e, G, E, p⟩ => ⟨e, G, E, p.split.ifok fun ds H1 G1 hk x1 p1 vs rs => ?_⟩
  exact ⟨by rw [rs.length]; exact Nat.le_antisymm (hl e ds hk) (hl2 e ds hk), ds, G1, x1.gh, rs, p1⟩
/-- .. exactly so long -/
def LenEq (fs : Env → Res (List D)) (n : Nat) : Prop := ∀ e ds, fs e = .ok ds → ds.length = n
theorem leq_nil : LenEq aNil 0 := fun e ds h => by cases h; rfl
theorem leq_cons {f : Env → Res D} {fs : Env → Res (List D)} {n : Nat} (h : LenEq fs n) : LenEq (aCons f fs) (n + 1) := fun e ds q => by
  unfold aCons at q
  cases hf : f e with
  | ok d =>
    rw [hf] at q
    cases hs : fs e with
    | ok es => rw [hs] at q; cases q; exact congrArg (· + 1) (h e es hs)
    | exc c x => rw [hs] at q; cases q
    | bad => rw [hs] at q; cases q
  | exc c x => rw [hf] at q; cases q
  | bad => rw [hf] at q; cases q
theorem de_callE {A : Nat → Prop} {x : Str} {p : Pos} {k : Nat} {ps : List Str} {F : List D → Res D} {fs : Env → Res (List D)} (c : CallOk X.prog X.w X.K X.mg X.base k x ps F) (hr : Room k X.A) (hg : Gl X x) (tk : Takes X W) (ha : DA X W A (ex :: es) fs) (hl : LenEq fs ps.length)
    (hdb : (x == ("__debug__" : Str)) = false := by decide) (he : starEach (ex :: es) X.env = (false, eval ex X.env) :: starEach es X.env := by rfl) (hpl : (backTo pos (starEach es X.env)).any (·.1) = false := by rfl) :
    DE X W A (.Call (.Name x p) (ex :: es) [] pos) (eCall F fs) := de_call c hr hg tk ha (fun e ds h => Nat.le_of_eq (hl e ds h)) (fun e ds h => Nat.le_of_eq (hl e ds h).symm) hdb he hpl

/-! ### a def keeps its promise -/
def env0 (n m : Nat) (ds : List D) : Env := ds.map (fun d => some (d, false)) ++ List.replicate (m - n) none
def runDef (n m : Nat) (fb : Env → Out) : List D → Res D := fun ds => match fb (env0 n m ds) with
  | .rt d => .ok d
  | .ro d => .ok d
  | .rm d _ => .ok d
  | .nx _ => .ok .non
  | .ex c fs _ => .exc c fs
  | _ => .bad
abbrev wE (E : XK) : WX := fun cls o _ H => E cls o H
theorem fnD {P : Program} {w : World} {K : PySem.W.Frag} {mg : Str → Option Value} {base : Heap} {x qual : Str} {st : Stmt} {f : Addr} {fd : FuncData} {N ps : List Str} {k : Nat} {fb : Env → Out} (F : Fun K x qual st f fd) (S : FnScope N ps (defScope st))
    (hbody : ∀ (cdv : Value) (A : Around) (outer : List PySem.Env) (s : Shared) (H G : Hp) (E : XK), Room k (A.deeper (envOfC qual (defScope st) s.heap.objs.size f cdv)) →
      Takes (cxOf (L2.CX P w) P w K mg base N qual (defScope st) f cdv A outer s H E) (wE E) → PassesOwn (model P w) (A.deeper (envOfC qual (defScope st) s.heap.objs.size f cdv)) (envOfC qual (defScope st) s.heap.objs.size f cdv) (cxOf (L2.CX P w) P w K mg base N qual (defScope st) f cdv A outer s H E).xe →
      DSs (cxOf (L2.CX P w) P w K mg base N qual (defScope st) f cdv A outer s H E) (wE E) (Bas.of H) G (defBody st) fb) :
    FnOk P w K mg base (L2.CX P w) (k + 1) f fd ps (spD K mg ps.length (runDef ps.length N.length fb)) := by
  refine F.okX S (fun vs H Q E h => h.1) fun cdv A outer s H vs Q E hr h => ?_
  obtain ⟨hl, ds, G, sg, r, p⟩ := h
  refine ⟨_, (hbody cdv A outer s H G E hr (takes_of rfl rfl rfl rfl) (passes_of rfl)).lkR (fun D σ H q => q), ?_⟩
  show tS _ _ _ _ _ _ _ _ _
  refine ⟨env0 ps.length N.length ds, G, ?_, ?_⟩
  · have hps : ps.length ≤ N.length := by have := congrArg List.length S.pre; rw [List.length_take] at this; omega
    have hdl := r.length
    have get : ∀ (i : Nat) (d : D) (o : Bool), (env0 ps.length N.length ds)[i]? = some (some (d, o)) → o = false ∧ ds[i]? = some d := fun i d o h => by
      unfold env0 at h
      by_cases hi : i < ds.length
      · rw [List.getElem?_append_left (by simpa using hi), List.getElem?_map] at h
        cases q : ds[i]? with
        | none => rw [q] at h; cases h
        | some d' => rw [q] at h; cases h; exact ⟨rfl, rfl⟩
      · rw [List.getElem?_append_right (by simpa using hi), List.getElem?_replicate] at h
        split at h <;> cases h
    refine ⟨⟨Sub.refl _, Sub.refl _, sg, fun b z => .inl z⟩, ?_, fun i d h => ?_, fun i d h => ?_, fun i j d d' a h => ?_, fun i a d h => by cases h⟩
    · unfold L2.start env0
      simp only [List.length_append, List.length_map, List.length_replicate]
      omega
    · obtain ⟨_, h2⟩ := get i d false h
      obtain ⟨v, h3, h4⟩ := r.get h2
      refine ⟨v, ?_, h4⟩
      have hi : i < vs.length := (List.getElem?_eq_some_iff.mp h3).1
      unfold L2.start
      rw [List.getElem?_append_left (by simpa using hi), List.getElem?_map, h3]
      rfl
    · exact absurd (get i d true h).1 (by simp)
    · exact absurd (get i d true h).1 (by simp)
  · unfold runDef at p
    cases hr : fb (env0 ps.length N.length ds) with
    | rt d =>
      rw [hr] at p
      exact fun v H' G' x r => .here (p H' G' x v r)
    | ro d =>
      rw [hr] at p
      intro a H' G' x ha ga rc
      exact (own_lock x ha ga rc).imp fun H2 ⟨G2, y, r⟩ => p H2 G2 y _ r
    | nx e' =>
      rw [hr] at p
      exact fun σ' H' G' S' => p H' G' S'.ext .non rfl
    | ex c fs e' =>
      rw [hr] at p
      exact fun cls o σ' H' G' H2 S' s2 ix => p cls o H2 (S'.ext.hh.trans s2) (ix.back S'.ext.hh)
    | rm d e' =>
      rw [hr] at p
      exact fun v σ' H' G' S' r => .here (p H' G' S'.ext v r)
    | bk e' => rw [hr] at p; exact p.elim
    | ct e' => rw [hr] at p; exact p.elim
    | bad => rw [hr] at p; exact p.elim
end
end DL

namespace DL
open PySem PySem.Spec PyProof.Rows L2
open PySem.Builtin.Int (intBits)

/-! ### comprehensions -/
def wipeE (e : Env) : List Nat → Env
  | [] => e
  | v :: vs => (wipeE e vs).set v none
theorem wipeE_length (e : Env) : ∀ vs : List Nat, (wipeE e vs).length = e.length
  | [] => rfl
  | v :: vs => by unfold wipeE; rw [List.length_set, wipeE_length e vs]
theorem wipe_other {σ : L2.St} {i : Nat} : ∀ {vs : List Nat}, i ∉ vs → (wipe σ vs)[i]? = σ[i]?
  | [], _ => rfl
  | v :: vs, h => by
    unfold wipe
    rw [List.getElem?_set_ne (fun z => h (by simp [z])), wipe_other (fun z => h (by simp [z]))]
theorem wipeE_get {e : Env} {i : Nat} {x : D × Bool} : ∀ {vs : List Nat}, (wipeE e vs)[i]? = some (some x) → e[i]? = some (some x) ∧ i ∉ vs
  | [], h => ⟨h, by simp⟩
  | v :: vs, h => by
    unfold wipeE at h
    rcases set_get h with ⟨_, z⟩ | ⟨hi, z⟩
    · cases z
    · obtain ⟨a, b⟩ := wipeE_get z
      exact ⟨a, by simp [hi, b]⟩
theorem wipe_set {σ : L2.St} {i : Nat} {x : Option V} : ∀ {vs : List Nat}, i ∈ vs → wipe (σ.set i x) vs = wipe σ vs
  | [], h => by simp at h
  | v :: vs, h => by
    unfold wipe
    by_cases hv : i ∈ vs
    · rw [wipe_set hv]
    · have e : i = v := by simpa [hv] using h
      subst e
      have key : ∀ (ws : List Nat) (τ : L2.St), i ∉ ws → wipe (τ.set i x) ws = (wipe τ ws).set i x := by
        intro ws
        induction ws with
        | nil => intro τ _; rfl
        | cons w ws ih =>
          intro τ hw
          unfold wipe
          rw [ih τ (fun z => hw (by simp [z])), List.set_comm _ _ (fun z => hw (by simp [z]))]
      rw [key vs σ hv, List.set_set]
theorem wipe_idem {σ : L2.St} : ∀ (vs : List Nat), wipe (wipe σ vs) vs = wipe σ vs := by
  have swap : ∀ (ws : List Nat) (τ : L2.St) (i : Nat), wipe (τ.set i none) ws = (wipe τ ws).set i none := by
    intro ws
    induction ws with
    | nil => intro τ i; rfl
    | cons w ws ih =>
      intro τ i
      unfold wipe
      rw [ih]
      by_cases h : i = w
      · subst h; rfl
      · rw [List.set_comm _ _ h]
  intro vs
  induction vs with
  | nil => rfl
  | cons v vs ih =>
    show (wipe ((wipe σ vs).set v none) vs).set v none = (wipe σ vs).set v none
    rw [swap, ih, List.set_set]
theorem EnvG.wipe {K : PySem.W.Frag} {A : Nat → Prop} {σ : L2.St} {e : Env} {H G : Hp} (h : EnvG K A σ e H G) (vs : List Nat) : EnvG K A (L2.wipe σ vs) (wipeE e vs) H G :=
  ⟨h.sub, by rw [wipe_length, wipeE_length]; exact h.len, fun i d o hi => by
    obtain ⟨a, b⟩ := wipeE_get hi
    rw [wipe_other b]
    exact h.val i d o a⟩
theorem EnvG.set {K : PySem.W.Frag} {A : Nat → Prop} {σ : L2.St} {e : Env} {H G : Hp} (h : EnvG K A σ e H G) (i : Nat) {d : D} {v : V} (r : Rep K G d v) : EnvG K A (σ.set i (some v)) (e.set i (some (d, false))) H G :=
  ⟨h.sub, by rw [List.length_set, List.length_set]; exact h.len, fun j d' o hj => by
    rcases set_get hj with ⟨rfl, z⟩ | ⟨hij, z⟩
    · cases z
      have hl : j < e.length := by
        by_cases hl : j < e.length
        · exact hl
        · rw [List.getElem?_eq_none (by simpa using hl)] at hj; cases hj
      exact ⟨v, List.getElem?_set_self (by rw [h.len]; exact hl), fun _ => r, r.c h.sub⟩
    · rw [List.getElem?_set_ne (Ne.symm hij)]
      exact h.val j d' o z⟩
/-- the items: what is walked, by the pattern, where the test holds -/
def compL (e : Env) (p : Pat) (ft : Env → Res Bool) (fe : Env → Res D) : List D → Res (List D)
  | [] => .ok []
  | d :: ds => match p.bind d e with
    | .ok e1 => match ft e1 with
      | .ok true => match fe e1 with
        | .ok y => (compL e p ft fe ds).bind fun ys => .ok (y :: ys)
        | _ => .bad
      | .ok false => compL e p ft fe ds
      | _ => .bad
    | _ => .bad
def bYes : Env → Res Bool := fun _ => .ok true
def eComp (own : List Nat) (p : Pat) (fi : Env → Res (List D)) (ft : Env → Res Bool) (fe : Env → Res D) : Env → Res D := fun e => (fi e).bind fun ds => if ds.length ≤ sizeLine then (match compL (wipeE e own) p ft fe ds with
  | .ok ys => .ok (.lst ys)
  | _ => .bad) else .bad
abbrev WF : WX := fun _ _ _ _ => False
abbrev DTs (X : Cx) (A : Nat → Prop) (ifs : List Expr) (f : Env → Res Bool) : Prop := PTs X ifs (tT X.K X.mg WF A f)
theorem dts_nil {X : Cx} {A : Nat → Prop} : DTs X A [] bYes := ⟨fun pins s σ H Q I ⟨e, G, E, p⟩ => pts_nil.run pins s σ H Q I (p.here E.sub)⟩
/-- the reading of a comprehension, from the data's -/
theorem comp_imp {K : PySem.W.Frag} {mg : Str → Option Value} {W : WX} {A : Nat → Prop} {own : List Nat} {p : Pat} {fi : Env → Res (List D)} {ft : Env → Res Bool} {fe : Env → Res D} {g : TG} (hsl : ∀ i ∈ p.slots, i ∈ own)
    (hg : ∀ (R : L2.St → Env → Hp → Hp → Prop), Setable K p.slots R → ∀ (v : V) (σ : L2.St) (H G : Hp) (d : D) (e e' : Env) (Q : L2.St → Hp → Prop), R σ e H G → Sub G H → Rep K G d v → p.bind d e = .ok e' → (∀ σ', R σ' e' H G → Q σ' H) → g v σ H Q)
    (σ : L2.St) (H : Hp) (Q : VK) (q : tF K mg W A (eComp own p fi ft fe) σ H Q) : tLc (tIR K mg W A fi) g (tT K mg WF A ft) (tD K mg WF A fe) own σ H Q := by
  obtain ⟨e, G, E, pp⟩ := q
  refine ⟨e, G, E, pp.split.imp fun ds H1 G1 x1 p1 J w D0 hD => ?_⟩
  have E1 := E.ext x1
  by_cases hz : ds.length ≤ sizeLine
  · rw [if_pos hz] at p1
    cases hc : compL (wipeE e own) p ft fe ds with
    | exc c fs => rw [hc] at p1; exact p1.elim
    | bad => rw [hc] at p1; exact p1.elim
    | ok total =>
      rw [hc] at p1
      have gD : G1 D0 = none := x1.gh.free hD
      refine ⟨fun i m H2 => m = ds.length - i ∧ i ≤ ds.length ∧ ∃ (G2 : Hp) (acc : List D) (accV : List V) (rest : List D), Ext H1 G1 H2 G2 ∧ G2 D0 = none ∧ H2 D0 = some (.lst accV) ∧ RepL K G2 acc accV ∧ acc.length ≤ i ∧ compL (wipeE e own) p ft fe (ds.drop i) = .ok rest ∧ acc ++ rest = total,
        ⟨ds.length, rfl, Nat.zero_le _, G1, [], [], total, ⟨Sub.upd hD, Sub.refl _, x1.gh.trans (Sub.upd hD), fun b z => .inl z⟩, gD, upd_same, rfl, Nat.zero_le _, hc, rfl⟩, ?_⟩
      rintro i m H2 ⟨rfl, hi, G2, acc, accV, rest, x2, g2, h2, r2, ha, hr, ht⟩
      by_cases hlt : i < ds.length
      · refine .inr ⟨w.go H2 i x2.hh hlt, fun H3 => ∃ (G3 : Hp) (acc : List D) (accV : List V) (rest : List D), Ext H1 G1 H3 G3 ∧ G3 D0 = none ∧ H3 D0 = some (.lst accV) ∧ RepL K G3 acc accV ∧ acc.length ≤ i + 1 ∧ compL (wipeE e own) p ft fe (ds.drop (i + 1)) = .ok rest ∧ acc ++ rest = total, fun H3 h => ⟨ds.length - (i + 1), by omega, rfl, hlt, h⟩, fun x H3 y => ?_⟩
        obtain ⟨d, G3, hd, x3, rd⟩ := w.yld H2 G2 i x H3 x2.hh x2.gg x2.gh hlt y
        have x13 := x2.trans x3
        have n3 : ∀ {H' G' : Hp}, Ext H2 G2 H' G' → G' D0 = none := fun {H' G'} x => by
          cases hga : G' D0 with
          | none => rfl
          | some u =>
            rcases x.new D0 (by rw [hga]; simp) with z | z
            · exact absurd g2 z
            · rcases z with z | ⟨_, z⟩ <;> (rw [h2] at z; cases z)
        have e0 : ds.drop i = d :: ds.drop (i + 1) := by
          rw [List.drop_eq_getElem_cons hlt]
          have : ds[i] = d := by
            have := List.getElem?_eq_getElem hlt
            rw [hd] at this
            exact (Option.some.inj this).symm
          rw [this]
        rw [e0] at hr
        dsimp only [compL] at hr
        cases hb : p.bind d (wipeE e own) with
        | exc c fs => rw [hb] at hr; cases hr
        | bad => rw [hb] at hr; cases hr
        | ok e1 =>
          rw [hb] at hr
          dsimp only at hr
          refine hg (fun σ' e' H' G' => EnvG K A σ' e' H' G' ∧ L2.wipe σ' own = L2.wipe σ own) (fun σ' e' H' G' j d' v hj ⟨R1, R2⟩ r => ⟨R1.set j r, by rw [wipe_set (hsl j hj)]; exact R2⟩) x (L2.wipe σ own) H3 G3 d (wipeE e own) e1 _ ⟨(E1.ext x13).wipe own, wipe_idem own⟩ x3.gh rd hb fun σ' ⟨R1, R2⟩ => ⟨R2, e1, G3, R1, ?_⟩
          cases hft : ft e1 with
          | exc c fs => rw [hft] at hr; cases hr
          | bad => rw [hft] at hr; cases hr
          | ok b =>
            rw [hft] at hr
            intro H4 G4 x4
            cases b with
            | false =>
              dsimp only at hr ⊢
              rw [if_neg Bool.false_ne_true]
              exact ⟨G4, acc, accV, rest, x13.trans x4, n3 (x3.trans x4), x4.hh _ _ (x3.hh _ _ h2), (r2.mono x3.gg).mono x4.gg, Nat.le_succ_of_le ha, hr, ht⟩
            | true =>
              dsimp only at hr ⊢
              rw [if_pos rfl]
              refine ⟨e1, G4, R1.ext x4, ?_⟩
              cases hfe : fe e1 with
              | exc c fs => rw [hfe] at hr; cases hr
              | bad => rw [hfe] at hr; cases hr
              | ok y =>
                rw [hfe] at hr
                dsimp only at hr
                intro H5 G5 x5 yv ry
                cases hcr : compL (wipeE e own) p ft fe (ds.drop (i + 1)) with
                | exc c fs => rw [hcr] at hr; cases hr
                | bad => rw [hcr] at hr; cases hr
                | ok rest' =>
                  rw [hcr] at hr
                  cases hr
                  have x25 := (x3.trans x4).trans x5
                  have x15 := x2.trans x25
                  have n5 := n3 x25
                  have h5 := x25.hh _ _ h2
                  refine ⟨accV, h5, ?_, G5, acc ++ [y], accV ++ [yv], rest', ⟨fun b o z => ?_, x15.gg, fun b o z => ?_, x15.new⟩, n5, upd_same, (r2.mono x25.gg).append (.cons ry rfl), ?_, rfl, ?_⟩
                  · rw [r2.length]; omega
                  · have nb : b ≠ D0 := fun q => by rw [q, hD] at z; cases z
                    rw [upd_ne nb]; exact x15.hh _ _ z
                  · have nb : b ≠ D0 := fun q => by rw [q, n5] at z; cases z
                    rw [upd_ne nb]; exact x15.gh _ _ z
                  · rw [List.length_append, List.length_singleton]; omega
                  · rw [← ht, List.append_assoc]; rfl
      · have ei : i = ds.length := by omega
        subst ei
        refine .inl ⟨w.stop H2 x2.hh, ?_⟩
        rw [List.drop_length] at hr
        cases hr
        rw [List.append_nil] at ht
        subst ht
        exact p1 H2 G2 x2 D0 (x1.hh.free hD) g2 ⟨accV, h2, r2⟩
  · rw [if_neg hz] at p1; exact p1.elim
section
variable {X : Cx} {W : WX} {H0 : Bas} {G0 : Hp} {A : Nat → Prop} {al : List Nat} {pos spos : Pos}
theorem df_comp {elt tg iter : Expr} {ifs : List Expr} {scope : Scope} {own : List (Str × Nat)} {p : Pat} {fi : Env → Res (List D)} {ft : Env → Res Bool} {fe : Env → Res D} (hc : X.calm = true) (hN : X.N.Nodup) (hi : DIR X W A tg iter fi) (ok : BlkOk X.N X.env.scope scope own)
    (hg : ∀ (s : Shared) (H : Hp) (C : Addr) (cl : List (Str × Addr)) (fp : List Addr), DG (X.blk s H scope (compEnvC scope cl C X.env) fp) tg p) (ht : ∀ (s : Shared) (H : Hp) (C : Addr) (cl : List (Str × Addr)) (fp : List Addr), DTs (X.blk s H scope (compEnvC scope cl C X.env) fp) A ifs ft)
    (he : ∀ (s : Shared) (H : Hp) (C : Addr) (cl : List (Str × Addr)) (fp : List Addr), DE (X.blk s H scope (compEnvC scope cl C X.env) fp) WF A elt fe) (hsl : ∀ i ∈ p.slots, i ∈ own.map (·.2)) (hs : ∀ x, foldedSetIterable iter X.env x = pure x := by intro _; rfl) :
    DF X W A (.ListComp elt [⟨tg, iter, ifs, 0⟩] scope pos) (eComp (own.map (·.2)) p fi ft fe) := by
  let g0 : TG := fun v σ H Q => ∃ (R : L2.St → Env → Hp → Hp → Prop) (G : Hp) (d : D) (e e' : Env), Setable X.K p.slots R ∧ R σ e H G ∧ Sub G H ∧ Rep X.K G d v ∧ p.bind d e = .ok e' ∧ ∀ σ', R σ' e' H G → Q σ' H
  have hg' : ∀ (s : Shared) (H : Hp) (C : Addr) (cl : List (Str × Addr)) (fp : List Addr), PG (X.blk s H scope (compEnvC scope cl C X.env) fp) tg g0 := fun s H C cl fp => by
    obtain ⟨g, g1, g2⟩ := hg s H C cl fp
    exact ⟨fun pins s σ H v u Q I r ⟨R, G, d, e, e', a1, a2, a3, a4, a5, a6⟩ => g1.run pins s σ H v u Q I r (g2 R a1 v σ H G d e e' Q a2 a3 a4 a5 a6)⟩
  exact (pe_lc hc hN hi ok hg' ht he hs).imp (comp_imp (mg := X.mg) hsl fun R hR v σ H G d e e' Q a1 a2 a3 a4 a5 => ⟨R, G, d, e, e', hR, a1, a2, a3, a4, a5⟩)
end
end DL

namespace DL
open PySem PySem.Spec PyProof.Rows L2
open PySem.Builtin.Int (intBits)

/-! ### a name that never holds a list to be changed -/
def eVarS (i : Nat) : Env → Res D := fun e => match e[i]? with
  | some (some (d, false)) => .ok d
  | _ => .bad
section
variable {X : Cx} {W : WX} {A : Nat → Prop} {a b : Expr} {rest : List Expr} {pos p p1 p2 : Pos} {x T : Str} {H0 : Bas} {G0 : Hp}
theorem de_vs {i : Nat} {x : Str} {pos : Pos} (hN : X.N[i]? = some x) (hv : Vis X.env.scope x) (hd : (x == ("__debug__" : Str)) = false := by decide) (hcd : (x == ("__classdict__" : Str)) = false := by decide) : DE X W A (.Name x pos) (eVarS i) :=
  (pe_var hN hv hd hcd).imp fun σ H Q ⟨e, G, E, p⟩ => by
    unfold eVarS at p
    cases h : e[i]? with
    | none => rw [h] at p; exact p.elim
    | some s => cases s with
      | none => rw [h] at p; exact p.elim
      | some z =>
        obtain ⟨d, o⟩ := z
        rw [h] at p
        cases o with
        | true => exact p.elim
        | false =>
          obtain ⟨v, h1, h2, h3⟩ := E.val i d false h
          exact ⟨v, h1, p.here E.sub v (h2 (.inr rfl))⟩

/-! ### isinstance -/
/-- the name of the data's own type -/
def D.tyN : D → Option String
  | .non => some "NoneType"
  | .bl _ => some "bool"
  | .int _ => some "int"
  | .str _ => some "str"
  | .tup _ => some "tuple"
  | .con _ => some "tuple"
  | .lst _ => some "list"
  | _ => none
def isInt : D → Res D
  | .int _ => .ok (.bl true)
  | .bl _ => .ok (.bl true)
  | d => if d.tyN = none then .bad else .ok (.bl false)
def isBool : D → Res D
  | .bl _ => .ok (.bl true)
  | d => if d.tyN = none then .bad else .ok (.bl false)
def isTup : D → Res D
  | .tup _ => .ok (.bl true)
  | .con _ => .ok (.bl true)
  | d => if d.tyN = none then .bad else .ok (.bl false)
def isStr : D → Res D
  | .str _ => .ok (.bl true)
  | d => if d.tyN = none then .bad else .ok (.bl false)
def isList : D → Res D
  | .lst _ => .ok (.bl true)
  | d => if d.tyN = none then .bad else .ok (.bl false)
/-- g says which data is of the type T -/
def IsOf (T : String) (g : D → Res D) : Prop := ∀ d, (∀ t, d.tyN = some t → ∃ b, kitB t T = some b ∧ g d = .ok (.bl b)) ∧ (d.tyN = none → g d = .bad)
theorem is_int : IsOf "int" isInt := fun d => ⟨fun t h => by cases d <;> cases h <;> exact ⟨_, by decide +kernel, rfl⟩, fun h => by cases d <;> first | rfl | cases h⟩
theorem is_bool : IsOf "bool" isBool := fun d => ⟨fun t h => by cases d <;> cases h <;> exact ⟨_, by decide +kernel, rfl⟩, fun h => by cases d <;> first | rfl | cases h⟩
theorem is_tup : IsOf "tuple" isTup := fun d => ⟨fun t h => by cases d <;> cases h <;> exact ⟨_, by decide +kernel, rfl⟩, fun h => by cases d <;> first | rfl | cases h⟩
theorem tyX {K : PySem.W.Frag} {H G : Hp} {d : D} {v : V} {t : String} (g : Sub G H) (r : RepC K H G d v) (h : d.tyN = some t) : TyX K H v (.type t) := by
  cases d with
  | non => cases h; cases (show v = .non from r); exact .base .non
  | bl b => cases h; cases (show v = .bl b from r); exact .base (.bl b)
  | int i => cases h; cases (show v = .int i from r); exact .base (.int i)
  | str x => cases h; cases (show v = .str x from r); exact .base (.str x)
  | tup ds =>
    cases h
    obtain ⟨a, vs, e, s, _⟩ := (show Rep K G (.tup ds) v from r)
    subst e
    rcases g.pt (K := K) s with (q | ⟨o, q⟩) | ⟨o, its, n, q1, q2, _⟩
    · exact .base (.tup q)
    · exact .fTuple q
    · exact .kTuple q1 q2
  | con ds =>
    cases h
    obtain ⟨a, vs, e, s, _⟩ := (show Rep K G (.con ds) v from r)
    subst e
    rcases g.sqt (K := K) s.sqt with (q | ⟨o, q⟩) | ⟨o, its, n, q1, q2, _⟩
    · exact .base (.tup q)
    · exact .fTuple q
    · exact .kTuple q1 q2
  | lst ds =>
    cases h
    obtain ⟨a, vs, e, s, _⟩ := r
    subst e
    rcases s with (q | ⟨o, q⟩) | ⟨o, its, n, q1, q2, _⟩
    · exact .base (.lst q)
    · exact .base (.frz q)
    · exact .kList q1 q2
  | _ => cases h
theorem de_isi {x T : Str} {n : String} {g : D → Res D} {f : Env → Res D} (ho : IsOf n g) (hg : Gl X x) (hm : X.mg x = none) (hv : bootBuiltins x = some (.builtin "isinstance")) (ha : DR X W A a f) (hgT : Gl X T) (hmT : X.mg T = none) (hvT : bootBuiltins T = some (.type n))
    (hnx : x ≠ "__name__" := by decide) (hnT : T ≠ "__name__" := by decide) (hdT : (T == ("__debug__" : Str)) = false := by decide) (hdb : (x == ("__debug__" : Str)) = false := by decide)
    (he : starEach (a :: [.Name T p2]) X.env = (false, eval a X.env) :: starEach [.Name T p2] X.env := by rfl) (he2 : starEach (.Name T p2 :: []) X.env = (false, eval (.Name T p2) X.env) :: starEach [] X.env := by rfl) (hpl : (backTo pos (starEach [.Name T p2] X.env)).any (·.1) = false := by rfl) :
    DE X W A (.Call (.Name x p) [a, .Name T p2] [] pos) (e1 g f) := by
  refine (pe_callB call_isi hg hm hv (pa_cons ha (pa_cons (pe_bltn hgT hmT hvT (v := .ty n) rfl hnT hdT) pa_nil he2) he) hnx hdb he hpl).imp fun σ H Q ⟨e, G, E, p⟩ => ?_
  refine ⟨e, G, E, p.split.imp fun d H1 G1 x1 p1 v rv => ?_⟩
  cases ht : d.tyN with
  | none => rw [(ho d).2 ht] at p1; exact p1.elim
  | some t =>
    obtain ⟨b, k1, k2⟩ := (ho d).1 t ht
    rw [k2] at p1
    exact ⟨v, .ty n, .type t, .type n, b, rfl, .ty n, tyX x1.gh rv ht, kit_ty k1, p1.val x1.gh rfl⟩

/-! ### raise, try -/
structure ExcOk (K : PySem.W.Frag) (mg : Str → Option Value) (c : String) : Prop where
  ok : ∃ C B newId initId bmB, PySem.ExcBaseFacts B newId initId bmB ∧ PySem.W.excIn K C bmB newId = true ∧ mg (Str.ofString c) = some (.ref C) ∧ PySem.W.keepIn K (.ref C) = true ∧
    PySem.W.subIn K (.ref C) (.type "BaseException") = some true ∧ PySem.W.typeIn K (.ref C) = some (.type "type")
def sRaise (c : String) : Env → Out := fun e => .ex c [] e
/-- what "except X" does at each class -/
def Clause (K : PySem.W.Frag) (mg : Str → Option Value) (c : Value) (h : String → Option Bool) : Prop := ∀ k b cls, h k = some b → mg (Str.ofString k) = some cls → PySem.W.exmOne K cls c = some b
/-- nothing is raised out of here -/
def noEx (r : Out) : Out := match r with
  | .ex _ _ _ => .bad
  | r => r
def sTry (h : String → Option Bool) (fb fs : Env → Out) : Env → Out := fun e => match fb e with
  | .ex c fs' e' => match h c with
    | some true => noEx (fs e')
    | some false => .ex c fs' e'
    | none => .bad
  | r => r
end
end DL

namespace DL
open PySem PySem.Spec PyProof.Rows L2
open PySem.Builtin.Int (intBits)

theorem _root_.L2.Room.hu {k : Nat} {A : Around} (h : Room k A) : A.units + 64 < cLine := by have := h.un; omega
theorem CallOk.up {P : Program} {w : World} {K : PySem.W.Frag} {mg : Str → Option Value} {base : Heap} {j k : Nat} {x : Str} {ps : List Str} {F : List D → Res D} (h : CallOk P w K mg base j x ps F) (hjk : j ≤ k) : CallOk P w K mg base k x ps F := by
  obtain ⟨f, fd, a, b, c, d⟩ := h.ok
  exact ⟨f, fd, a, b, c, d.mono hjk⟩
theorem endW {l : PySem.W.OpenLaw} {k : Nat} {q : Program} {loose : List Str} {XP : (Str → Option Value) → Heap → Prop} {YP : World → Heap → Prop} {d : DefRec} {K : Params → PySem.W.Frag} {x : Str} {F : List D → Res D}
    (hn : l.most = some 63) (hdf : d.params.defaults = []) (hk : k < 60) (hY : ∀ (w : World) (h : Heap), YP w h → (K w.params).In h)
    (FF : ∀ (w : World) (mg : Str → Option Value) (fa : Addr) (h : Heap), (K w.params).In h → h.Ns mainGlobals mg → mg d.name = some (.ref fa) →
      ∃ fd : FuncData, (∀ (s : Shared) (u : Value), BindsTo s fd ⟨[u], []⟩ [(x, u)]) ∧ ∀ base : Heap, (K w.params).In base → base.Ns mainGlobals mg → FnOk l.prog w (K w.params) mg base (L2.CX l.prog w) k fa fd [x] (spD (K w.params) mg 1 F))
    (law : ∀ ns : List Int, ns.length ≤ 63 → (∀ z ∈ ns, intBits z ≤ 1048576) → F [.lst (ns.map D.int)] = .ok (.bl true)) :
    PySem.W.WalkO q loose XP YP l.row.toRowW d [] (fun f vs => PySem.call f vs) := by
  let sp : World → Sp := fun w => fun vs H Q E => vs.length = 1 ∧ ∃ (a : Addr) (ns : List Int), vs = [.ref a] ∧ ns.length ≤ 63 ∧ (∀ z ∈ ns, intBits z ≤ 1048576) ∧ SqL (K w.params) H a (ns.map V.int) ∧ ∀ H', Q (.bl true) H'
  refine L2.walk_ofB (l := l) (n := 63) (k := k) (x := x) (K := K) (CX := fun w => L2.CX l.prog w) (sp := sp) hn (by rw [PySem.sizeLine_eq]; decide) hdf (Room.mono (k := 60) ⟨rfl, by decide, by decide⟩ (by omega)) hY (fun w mg fa h a b c => ?_) (fun w H a ns hl hb _ hS => ⟨rfl, a, ns, rfl, hl, hb, hS, fun _ => rfl⟩) ?_
  · obtain ⟨fd, b1, b2⟩ := FF w mg fa h a b c
    refine ⟨fd, b1, fun base k1 k2 => ?_⟩
    have f := b2 base k1 k2
    refine ⟨fun vs H Q E h => h.1, fun A outer s H args us vs Q E r e bt vv hsp => f.run A outer s H args us vs Q E r e bt vv ?_⟩
    obtain ⟨_, a, ns, rfl, hl, hb, hS, hq⟩ := hsp
    refine ⟨rfl, [.lst (ns.map D.int)], H, Sub.refl H, ⟨_, _, rfl, ⟨a, _, rfl, hS, RepL.of_ints ns⟩, rfl⟩, ?_⟩
    rw [law ns hl hb]
    exact fun H' G' _ v hv => by cases (show v = .bl true from hv); exact hq H'
  · rintro w H s e s' ⟨_, _, _, _, _, _, _, _, _, _, _, _, z⟩
    exact z
end DL

namespace DL
open PySem PySem.Spec PyProof.Rows L2
open PySem.Builtin.Int (intBits)
/-! ### which classes an "except" names -/
theorem Clause.nil {K : PySem.W.Frag} {mg : Str → Option Value} {c : Value} : Clause K mg c (fun _ => none) := fun k b cls h _ => by cases h
theorem Clause.cons {K : PySem.W.Frag} {mg : Str → Option Value} {c : Value} {n : String} {C : Addr} {b : Bool} {f : String → Option Bool} (hm : mg (Str.ofString n) = some (.ref C)) (he : PySem.W.exmOne K (.ref C) c = some b) (t : Clause K mg c f) : Clause K mg c (fun s => if s = n then some b else f s) := fun k b' cls h hc => by
  dsimp only at h
  by_cases hk : k = n
  · subst hk
    rw [if_pos rfl] at h
    cases h
    rw [hm] at hc
    cases hc
    exact he
  · rw [if_neg hk] at h
    exact t k b' cls h hc
/-! ### a module's constant -/
structure ConOk (K : PySem.W.Frag) (mg : Str → Option Value) (x : String) (d : D) : Prop where
  ok : ∃ u v, mg (Str.ofString x) = some u ∧ RelV v u ∧ ∀ G, Rep K G d v
/-- a value of the written part is the data d -/
structure Con (K : PySem.W.Frag) (d : D) (u : Value) : Prop where
  ok : ∃ v, RelV v u ∧ ∀ G, Rep K G d v
theorem Con.int {K : PySem.W.Frag} {i : Int} {t : Tok} : Con K (.int i) (.int i t) := ⟨.int i, ⟨t, rfl⟩, fun _ => rfl⟩
theorem Con.str {K : PySem.W.Frag} {x : Str} {t : Tok} : Con K (.str x) (.str x t) := ⟨.str x, ⟨t, rfl⟩, fun _ => rfl⟩
def Cons (K : PySem.W.Frag) : List D → List Value → Prop
  | [], us => us = []
  | d :: ds, us => ∃ u r, us = u :: r ∧ Con K d u ∧ Cons K ds r
theorem Cons.rep {K : PySem.W.Frag} : ∀ {ds : List D} {us : List Value}, Cons K ds us → ∃ vs, Vals vs us ∧ ∀ G, RepL K G ds vs
  | [], _, rfl => ⟨[], .nil, fun _ => rfl⟩
  | d :: ds, _, ⟨u, r, rfl, h, t⟩ => by
    obtain ⟨v, h1, h2⟩ := h.ok
    obtain ⟨vs, h3, h4⟩ := Cons.rep t
    exact ⟨v :: vs, .cons h1 h3, fun G => ⟨v, vs, rfl, h2 G, h4 G⟩⟩
theorem Con.tup {K : PySem.W.Frag} {a : Addr} {us : List Value} {n : Nat} {sl : Array (Option Value)} {ds : List D} (h : K.lookup a = some ⟨.type "tuple", none, .seq us.toArray n, sl⟩) (c : Cons K ds us) (hn : us.length ≤ 1000) : Con K (.con ds) (.ref a) := by
  obtain ⟨vs, h3, h4⟩ := c.rep
  refine ⟨.ref a, rfl, fun G => ⟨a, vs, rfl, .inr ⟨_, _, n, h, rfl, rfl, rfl, ?_, by simpa using h3⟩, h4 G⟩⟩
  rw [PySem.sizeLine_eq]
  simp
  omega
theorem Con.at {K : PySem.W.Frag} {mg : Str → Option Value} {x : String} {d : D} {u : Value} (h : Con K d u) (hm : mg (Str.ofString x) = some u) : ConOk K mg x d := by
  obtain ⟨v, h1, h2⟩ := h.ok
  exact ⟨u, v, hm, h1, h2⟩
end DL

namespace DL
open PySem PySem.Spec PyProof.Rows L2
open PySem.Builtin.Int (intBits)
/-! ### range of three -/
def prog3 (i c : Int) (n : Nat) : List D := (List.range n).map fun k => D.int (i + (k : Nat) * c)
open Classical in
noncomputable def rg3 (i j c : Int) : Res (List D) := if h : ∃ n, RgC i j c n then .ok (prog3 i c (Classical.choose h)) else .bad
noncomputable def r3D : D → D → D → Res (List D) := fun x y z => match x, y, z with
  | .int i, .int j, .int c => rg3 i j c
  | _, _, _ => .bad
noncomputable def iRange3 (f g h : DL.Env → Res D) : DL.Env → Res (List D) := fun e => (f e).bind fun x => (g e).bind fun y => (h e).bind fun z => r3D x y z
section
variable {X : Cx} {W : WX} {A : Nat → Prop} {a b c : Expr} {pos : Pos}
/-- x, y = a, b with no tuple made -/
def sPar (al : List Nat) (i j : Nat) (fs : DL.Env → Res (List D)) : DL.Env → Out := sE al fs fun ds e => match ds with
  | [x, y] => .nx ((e.set i (some (x, false))).set j (some (y, false)))
  | _ => .bad
/-! ### zip of two -/
end
end DL

namespace DL
open PySem PySem.Spec PyProof.Rows L2
open PySem.Builtin.Int (intBits)
/-! ### str of truth values and numbers -/
def dStr : D → Res D
  | .bl b => .ok (.str (if b = true then "True" else "False"))
  | _ => .bad
/-! ### except X as e -/
theorem StOk.clear {K : PySem.W.Frag} {H0 : Bas} {G0 H G : Hp} {σ : L2.St} {e : DL.Env} (S : StOk K H0 G0 σ e H G) (i : Nat) : StOk K H0 G0 (σ.set i none) (e.set i none) H G := by
  have get : ∀ (j : Nat) (z : D × Bool), (e.set i none)[j]? = some (some z) → i ≠ j ∧ e[j]? = some (some z) := fun j z h => by
    by_cases hj : i = j
    · subst hj
      rw [List.getElem?_set] at h
      split at h
      · split at h <;> cases h
      · rename_i k; exact absurd rfl k
    · rw [List.getElem?_set_ne hj] at h
      exact ⟨hj, h⟩
  refine ⟨S.ext, by rw [List.length_set, List.length_set]; exact S.len, fun j d h => ?_, fun j d h => ?_, fun j k d d' a h1 h2 h3 h4 => ?_, fun j a d hp h => ?_⟩
  · obtain ⟨hj, h'⟩ := get j _ h
    rw [List.getElem?_set_ne hj]
    exact S.sh j d h'
  · obtain ⟨hj, h'⟩ := get j _ h
    rw [List.getElem?_set_ne hj]
    exact S.ow j d h'
  · obtain ⟨hj, h1'⟩ := get j _ h1
    obtain ⟨hk, h2'⟩ := get k _ h2
    rw [List.getElem?_set_ne hj] at h3
    rw [List.getElem?_set_ne hk] at h4
    exact S.ne j k d d' a h1' h2' h3 h4
  · obtain ⟨hj, h'⟩ := get j _ h
    rw [List.getElem?_set_ne hj]
    exact S.pn j a d hp h'
/-- the error's name is gone behind the suite; nothing is raised out of it -/
def clrN (i : Nat) : Out → Out
  | .nx e => .nx (e.set i none)
  | .bk e => .bk (e.set i none)
  | .ct e => .ct (e.set i none)
  | .rt d => .rt d
  | .ro d => .ro d
  | .rm d e => .rm d (e.set i none)
  | _ => .bad
open Classical in
/-- what is so at every address -/
noncomputable def unif (g : Addr → Out) : Out := if h : ∃ r, ∀ a, g a = r then Classical.choose h else .bad
theorem unif_of {g : Addr → Out} {r : Out} (h : ∀ a, g a = r) : unif g = r := by
  have hx : ∃ r, ∀ a, g a = r := ⟨r, h⟩
  unfold unif
  rw [dif_pos hx]
  exact (Classical.choose_spec hx 0).symm.trans (h 0)
noncomputable def sTryAs (i : Nat) (h : String → Option Bool) (fb : DL.Env → Out) (fs : Addr → String → DL.Env → Out) : DL.Env → Out := fun e => match fb e with
  | .ex c fs' e' => match h c with
    | some true => if fs' = [] then unif fun a => clrN i (fs a c (e'.set i (some (.obj (.ref a), false)))) else .bad
    | some false => .ex c fs' e'
    | none => .bad
  | r => r
section
variable {X : Cx} {W : WX} {A : Nat → Prop} {a b : Expr} {rest : List Expr} {pos p p1 p2 : Pos} {H0 : Bas} {G0 : Hp}
/-! ### isinstance of the caught error -/
def IsTab (K : PySem.W.Frag) (mg : Str → Option Value) (cv : Value) (t : String → Option Bool) : Prop := ∀ c b cls, t c = some b → mg (Str.ofString c) = some cls → ∃ C, cls = .ref C ∧ ExcC K C ∧ PySem.W.kitOne K (.ref C) cv = some b
theorem IsTab.nil {K : PySem.W.Frag} {mg : Str → Option Value} {cv : Value} : IsTab K mg cv (fun _ => none) := fun c b cls h _ => by cases h
theorem IsTab.cons {K : PySem.W.Frag} {mg : Str → Option Value} {cv : Value} {n : String} {C : Addr} {b : Bool} {f : String → Option Bool} (hm : mg (Str.ofString n) = some (.ref C)) (hc : ExcC K C) (he : PySem.W.kitOne K (.ref C) cv = some b) (t : IsTab K mg cv f) : IsTab K mg cv (fun s => if s = n then some b else f s) := fun k b' cls h hcl => by
  dsimp only at h
  by_cases hk : k = n
  · subst hk
    rw [if_pos rfl] at h
    cases h
    rw [hm] at hcl
    cases hcl
    exact ⟨C, rfl, hc, he⟩
  · rw [if_neg hk] at h
    exact t k b' cls h hcl
theorem kit_own {K : PySem.W.Frag} {A S : Addr} {b : Bool} (hne : (Value.ref A == Value.ref S) = true → b = true) (h2 : PySem.W.isClsIn K S = true) (h3 : PySem.W.typeIn K (.ref S) = some (.type "type")) (h4 : PySem.W.subIn K (.ref A) (.ref S) = some b) : PySem.W.kitOne K (.ref A) (.ref S) = some b := by
  unfold PySem.W.kitOne
  by_cases h : (Value.ref A == Value.ref S) = true
  · rw [if_pos h, hne h]
  · rw [if_neg h]
    have e2 : ((PySem.W.clsIn K S).isSome && PySem.W.typeIn K (.ref S) == some (.type "type")) = true := by
      have h2' : (PySem.W.clsIn K S).isSome = true := h2
      rw [h2', h3]; rfl
    show (if ((PySem.W.clsIn K S).isSome && PySem.W.typeIn K (.ref S) == some (.type "type")) = true then PySem.W.subIn K (.ref A) (.ref S) else none) = some b
    rw [if_pos e2]
    exact h4
def eIsE (i : Nat) (a : Addr) (o : Option Bool) : DL.Env → Res D := fun e => match e[i]? with
  | some (some (.obj (.ref a'), false)) => if a' = a then (match o with | some b => .ok (.bl b) | none => .bad) else .bad
  | _ => .bad
end
end DL

namespace DL
open PySem PySem.Spec PyProof.Rows L2
open PySem.Builtin.Int (intBits)
/-! ### dicts: the data -/
open Classical in
/-- what stands at a key -/
noncomputable def dFind (kvs : List (D × D)) (k : D) : Option D := (kvs.find? fun p => decide (p.1 = k)).map (·.2)
open Classical in
/-- a key set -/
noncomputable def dSet (kvs : List (D × D)) (k d : D) : List (D × D) := if (kvs.any fun p => decide (p.1 = k)) = true then kvs.map (fun p => if p.1 = k then (p.1, d) else p) else kvs ++ [(k, d)]
theorem keyD_inj {a b : Key} (h : keyD a = keyD b) : a = b := by
  cases a <;> cases b <;> simp [keyD] at h <;> rw [h]
theorem keyT_inj : ∀ {a b : List Key}, keyT a = keyT b → a = b := by
  intro a b h
  unfold keyT at h
  injection h with h
  induction a generalizing b with
  | nil => cases b with
    | nil => rfl
    | cons _ _ => simp at h
  | cons x a ih => cases b with
    | nil => simp at h
    | cons y b =>
      simp only [List.map_cons, List.cons.injEq] at h
      rw [keyD_inj h.1, ih h.2]
section
variable {κ : Type} [DecidableEq κ] {f : κ → D} {K : PySem.W.Frag} {G : Hp}
theorem repv_find (hf : ∀ a b, f a = f b → a = b) : ∀ {kvs : List (D × D)} {ps : List (κ × V)}, kvs.map (·.1) = ps.map (fun p => f p.1) → RepV K G kvs (ps.map (·.2)) → ∀ k : κ,
    (dFind kvs (f k) = none ∧ valV ps k = none) ∨ ∃ d v, dFind kvs (f k) = some d ∧ valV ps k = some v ∧ Rep K G d v
  | [], [], _, _, k => .inl ⟨rfl, rfl⟩
  | [], _ :: _, h, _, _ => by simp at h
  | _ :: _, [], h, _, _ => by simp at h
  | (k0, d0) :: kvs, (c0, v0) :: ps, h, r, k => by
    simp only [List.map_cons, List.cons.injEq] at h
    obtain ⟨v, r', e, r1, r2⟩ := r
    simp only [List.map_cons, List.cons.injEq] at e
    obtain ⟨e1, e2⟩ := e
    subst e1 e2
    have ih := repv_find hf h.2 r2 k
    have hk0 : k0 = f c0 := h.1
    subst hk0
    by_cases hk : c0 = k
    · subst hk
      refine .inr ⟨d0, v0, ?_, ?_, r1⟩
      · simp [dFind]
      · simp [valV]
    · have hk' : ¬ f c0 = f k := fun z => hk (hf _ _ z)
      have e1 : dFind ((f c0, d0) :: kvs) (f k) = dFind kvs (f k) := by simp [dFind, hk']
      have e2 : valV ((c0, v0) :: ps) k = valV ps k := by simp [valV, hk]
      rw [e1, e2]
      exact ih
theorem repv_app : ∀ {kvs : List (D × D)} {vs : List V} {k d : D} {v : V}, RepV K G kvs vs → Rep K G d v → RepV K G (kvs ++ [(k, d)]) (vs ++ [v])
  | [], _, k, d, v, rfl, h => ⟨v, [], rfl, h, rfl⟩
  | (_, d0) :: kvs, _, k, d, v, ⟨v0, r', e, r1, r2⟩, h => ⟨v0, r' ++ [v], by rw [e]; rfl, r1, repv_app r2 h⟩
end
end DL

namespace DL
open PySem PySem.Spec PyProof.Rows L2
open PySem.Builtin.Int (intBits)
/-! ### dicts: the rules -/
def eDNew (t : Bool) : DL.Env → Res D := fun _ => .ok (.dct t [])
section
variable {X : Cx} {W : WX} {A : Nat → Prop} {a b : Expr} {rest : List Expr} {pos p p1 p2 apos cpos : Pos} {H0 : Bas} {G0 : Hp}
/-- a key that fits the dict's kind -/
def D.isKey : D → Bool
  | .int _ => true
  | .str _ => true
  | _ => false
def D.keyOk (t : Bool) : D → Bool
  | .tup ds => t && ds.all D.isKey
  | d => !t && d.isKey
theorem key_of {d : D} (h : d.isKey = true) : ∃ k : Key, d = keyD k := by
  cases d with
  | int i => exact ⟨.inl i, rfl⟩
  | str x => exact ⟨.inr x, rfl⟩
  | _ => cases h
theorem keys_of : ∀ {ds : List D}, ds.all D.isKey = true → ∃ ks : List Key, ds = ks.map keyD
  | [], _ => ⟨[], rfl⟩
  | d :: ds, h => by
    simp only [List.all_cons, Bool.and_eq_true] at h
    obtain ⟨k, e⟩ := key_of h.1
    obtain ⟨ks, e2⟩ := keys_of h.2
    exact ⟨k :: ks, by rw [e, e2]; rfl⟩
theorem rep_key {K : PySem.W.Frag} {G : Hp} {k : Key} {v : V} (r : Rep K G (keyD k) v) : v = kV k := by
  cases k with
  | inl i => exact r
  | inr x => exact r
theorem rep_keys {K : PySem.W.Frag} {G : Hp} : ∀ {ks : List Key} {vs : List V}, RepL K G (ks.map keyD) vs → vs = ks.map kV
  | [], _, h => h
  | k :: ks, _, ⟨v, r, e, h1, h2⟩ => by rw [e, rep_key h1, rep_keys h2]; rfl
/-- what a dict tells at a key -/
theorem dget_rep {K : PySem.W.Frag} {H G : Hp} {t : Bool} {kvs : List (D × D)} {a : Addr} {k : D} {y : V} (sg : Sub G H) (r : RepC K H G (.dct t kvs) (.ref a)) (hk : D.keyOk t k = true) (ry : Rep K G k y) :
    ∃ o, DGet H a y o ∧ ((dFind kvs k = none ∧ o = none) ∨ ∃ d v, dFind kvs k = some d ∧ o = some v ∧ Rep K G d v) := by
  obtain ⟨a', ea, h⟩ := r
  cases ea
  rcases h with ⟨t0, ps, s, hkeys, rv⟩ | ⟨t0, ps, s, hkeys, rv⟩
  · subst t0
    have hk' : k.isKey = true := by
      cases k with
      | tup ds => simp [D.keyOk] at hk
      | _ => simpa [D.keyOk] using hk
    obtain ⟨κ, e⟩ := key_of hk'
    subst e
    refine ⟨valV ps κ, .inl ⟨ps, κ, s, rep_key ry, rfl⟩, ?_⟩
    exact repv_find (fun _ _ => keyD_inj) hkeys rv κ
  · subst t0
    cases k with
    | tup ds =>
      have hk' : ds.all D.isKey = true := by simpa [D.keyOk] using hk
      obtain ⟨ks, e⟩ := keys_of hk'
      subst e
      obtain ⟨b, vs, e1, e2, e3⟩ := ry
      have := rep_keys e3
      subst this
      refine ⟨valV ps ks, .inr ⟨ps, ks, b, s, e1, sg _ _ e2, rfl⟩, ?_⟩
      exact repv_find (f := keyT) (fun _ _ => keyT_inj) hkeys rv ks
    | _ => simp [D.keyOk] at hk
/-- d[k] -/
noncomputable def dAt : D → D → Res D := fun d k => match d with
  | .dct t kvs => if D.keyOk t k = true then (match dFind kvs k with | some x => .ok x | none => .bad) else .bad
  | _ => .bad
theorem de_dix {fa fb : DL.Env → Res D} (hu : X.A.units + 1 < cLine) (ha : DR X W A a fa) (hb : DE X W A b fb) (hs : NoSl b) : DE X W A (.Subscript a b pos) (eOp dAt fa fb) :=
  (pe_dget hu ha hb hs).imp fun σ H Q ⟨e, G, E, q⟩ => ⟨e, G, E, q.split.imp fun d H1 G1 x1 q1 v rv => ⟨e, G1, E.ext x1, q1.split.imp fun k H2 G2 x2 q2 y ry => by
    have rv := rv.mono x2.hh x2.gg
    cases d with
    | dct t kvs =>
      dsimp only [dAt] at q2
      by_cases hk : D.keyOk t k = true
      · rw [if_pos hk] at q2
        obtain ⟨a', ea, _⟩ := id rv
        subst ea
        obtain ⟨o, h1, h2⟩ := dget_rep x2.gh rv hk ry
        rcases h2 with ⟨e1, e2⟩ | ⟨d, w, e1, e2, e3⟩
        · rw [e1] at q2; exact q2.elim
        · rw [e1] at q2
          subst e2
          exact ⟨a', w, rfl, h1, q2.here x2.gh w e3⟩
      · rw [if_neg hk] at q2; exact q2.elim
    | _ => exact (show False from q2).elim⟩⟩
/-- d.get(k, x) -/
noncomputable def dGet2 : D → D → D → Res D := fun d k x => match d with
  | .dct t kvs => if D.keyOk t k = true then .ok ((dFind kvs k).getD x) else .bad
  | _ => .bad
noncomputable def eGet2 (fa fb fc : DL.Env → Res D) : DL.Env → Res D := fun e => (fa e).bind fun d => match d with
  | .dct t kvs => (fb e).bind fun k => (fc e).bind fun x => dGet2 (.dct t kvs) k x
  | _ => .bad
end
end DL

namespace DL
open PySem PySem.Spec PyProof.Rows L2
open PySem.Builtin.Int (intBits)
theorem _root_.L2.Room.hu1 {k : Nat} {A : Around} (h : Room k A) : A.units + 1 < cLine := by have := h.un; omega
/-- the dict that the name i holds, to be changed -/
def ownD (i : Nat) (e : DL.Env) (k : Bool → List (D × D) → Out) : Out := match e[i]? with
  | some (some (.dct t kvs, true)) => k t kvs
  | _ => .bad
/-- x[k] = v -/
noncomputable def sPutD (al : List Nat) (i : Nat) (fk fv : DL.Env → Res D) : DL.Env → Out := fun e => ownD i (fz al e) fun t kvs => sE al (fun e => (fv e).bind fun v => (fk e).bind fun k => .ok (k, v)) (fun kv e' =>
  if D.keyOk t kv.1 = true ∧ kvs.length < sizeLine then .nx (e'.set i (some (.dct t (dSet kvs kv.1 kv.2), true))) else .bad) e
section
variable {X : Cx} {W : WX} {H0 : Bas} {G0 : Hp} {al : List Nat} {pos p1 p2 : Pos}
end
end DL

/-! sorting tuples of any lengths, empty ones too -/
namespace DL
open PySem PySem.W PySem.Calls PyProof.Rows PySem.SeqAt
section
variable {prog : Program} {w : World} {A : Around} {s : Shared}
end
end DL

/-! sorted(x), x a list, a tuple or a dict -/
namespace DL
open PySem PySem.Spec PyProof.Rows L2
section
open PySem.W PySem.Calls PySem.SeqAt
variable {prog : Program} {w : World} {A : Around} {s : Shared}
end
/-! ### data -/
def D.le (x y : D) : Bool := !D.lt y x
/-- these can be sorted -/
structure SortOk (xs : List D) : Prop where
  len : xs.length ≤ sizeLine
  pl : ∀ x ∈ xs, x.pl 50 = true
  al : ∀ x ∈ xs, ∀ y ∈ xs, PySem.W.alike x.py y.py = true
  kd : (∀ x ∈ xs, ∃ ys, x = .tup ys) ∨ ∀ x ∈ xs, x ≠ .non ∧ (∀ ys, x ≠ .tup ys) ∧ ∀ ys, x ≠ .con ys
theorem SortOk.alike {xs : List D} (h : SortOk xs) : PySem.W.AllAlike (xs.map D.py) := by
  intro d hd d' hd'
  obtain ⟨x, hx, rfl⟩ := List.mem_map.mp hd
  obtain ⟨y, hy, rfl⟩ := List.mem_map.mp hd'
  exact h.al x hx y hy
section
variable {X : Cx} {W : WX}
end
end DL

/-! rules that look at the data: index, in, is, slices with a step, methods -/
namespace DL
open PySem PySem.Spec PyProof.Rows L2
open PySem.Builtin.Int (intBits)
section
variable {X : Cx} {W : WX} {A : Nat → Prop} {a b c ex : Expr} {pos p p1 p2 apos cpos : Pos}
/-- either of two readings, as the data say -/
theorem de_pick {f f1 f2 : DL.Env → Res D} (h1 : DE X W A ex f1) (h2 : DE X W A ex f2) (hf : ∀ e, f e = f1 e ∨ f e = f2 e ∨ f e = .bad) : DE X W A ex f :=
  ⟨fun pins s σ H Q I ⟨e, G, E, q⟩ => by
    rcases hf e with z | z | z
    · rw [z] at q; exact h1.run pins s σ H Q I ⟨e, G, E, q⟩
    · rw [z] at q; exact h2.run pins s σ H Q I ⟨e, G, E, q⟩
    · rw [z] at q; exact q.elim⟩
theorem eOp_pick {g g1 g2 : D → D → Res D} {fa fb : DL.Env → Res D} (h : ∀ x y, g x y = g1 x y ∨ g x y = g2 x y ∨ g x y = .bad) (e : DL.Env) : eOp g fa fb e = eOp g1 fa fb e ∨ eOp g fa fb e = eOp g2 fa fb e ∨ eOp g fa fb e = .bad := by
  unfold eOp
  cases ha : fa e with
  | ok x =>
    cases hb : fb e with
    | ok y => exact h x y
    | exc _ _ => exact .inl rfl
    | bad => exact .inl rfl
  | exc _ _ => exact .inl rfl
  | bad => exact .inl rfl
/-! ### x[k] of any kind -/
noncomputable def dIxA (x y : D) : Res D := match x with
  | .dct t kvs => dAt (.dct t kvs) y
  | x => dIx x y
theorem de_ixA {fa fb : DL.Env → Res D} (hu : X.A.units + 1 < cLine) (ha : DR X W A a fa) (hb : DE X W A b fb) (hs : NoSl b) (hs2 : PlainIx b) : DE X W A (.Subscript a b pos) (eOp dIxA fa fb) :=
  de_pick (de_dix hu ha hb hs) (de_ix ha (dr hb) hs2) (eOp_pick fun x y => by cases x <;> first | exact .inl rfl | exact .inr (.inl rfl))
/-! ### is -/
/-! ### in, of lists, tuples and texts -/
end
end DL

/-! methods, lists made, slices with a step -/
namespace DL
open PySem PySem.Spec PyProof.Rows L2
open PySem.Builtin.Int (intBits)
section
variable {X : Cx} {W : WX} {A : Nat → Prop} {a b c ex o e : Expr} {es : List Expr} {pos p p1 p2 p3 apos cpos : Pos} {T id : String} {name : Str}
/-! ### methods of a value that is read -/
/-! ### l.remove(k), l.insert(i, k) -/
mutual
theorem py_plain : ∀ (d : D) (n : Nat), d.pl n = true → d.py.plain = true
  | .non, n, _ => by simp [D.py, PyData.plain]
  | .bl _, n, _ => by simp [D.py, PyData.plain]
  | .int _, n, _ => by simp [D.py, PyData.plain]
  | .str _, n, _ => by simp [D.py, PyData.plain]
  | .obj _, n, h => by simp [D.pl] at h
  | .err _ _, n, h => by simp [D.pl] at h
  | .exn _ _ _, n, h => by simp [D.pl] at h
  | .dct _ _, n, h => by simp [D.pl] at h
  | .con xs, 0, h => by simp [D.pl] at h
  | .con xs, n + 1, h => by
    simp only [D.py, PyData.plain]
    exact pys_plain xs n (by simpa [D.pl] using h)
  | .tup xs, 0, h => by simp [D.pl] at h
  | .lst xs, 0, h => by simp [D.pl] at h
  | .tup xs, n + 1, h => by
    simp only [D.py, PyData.plain]
    exact pys_plain xs n (by simpa [D.pl] using h)
  | .lst xs, n + 1, h => by
    simp only [D.py, PyData.plain]
    exact pys_plain xs n (by simpa [D.pl] using h)
theorem pys_plain : ∀ (ds : List D) (n : Nat), D.pls ds n = true → PyData.plainAll (D.pys ds) = true
  | [], n, _ => by simp [D.pys, PyData.plainAll]
  | d :: r, n, h => by
    have h' : d.pl n = true ∧ D.pls r n = true := by simpa [D.pls] using h
    simp only [D.pys, PyData.plainAll, py_plain d n h'.1, pys_plain r n h'.2, Bool.and_self]
end
/-! ### list(range(..)) -/
/-! ### [x] * n -/
end
end DL

/-! zip and enumerate over lists and tuples, mixed -/
namespace DL
open PySem PySem.Spec PyProof.Rows L2
open PySem.Builtin.Int (intBits)
/-! ### a side: a list (false) or a tuple (true) -/
/-! ### zip -/
section
variable {X : Cx} {W : WX} {A : Nat → Prop} {a b : Expr} {p pos tpos : Pos} {elts : List Expr} {kk : Nat}
end
end DL

/-! enumerate over a list or a tuple; slices with a step -/
namespace DL
open PySem PySem.Spec PyProof.Rows L2
open PySem.Builtin.Int (intBits)
section
variable {X : Cx} {W : WX} {A : Nat → Prop} {a b c ex : Expr} {lo hi : Option Expr} {p p2 p3 pos tpos : Pos} {elts : List Expr} {kk : Nat}
/-! ### xs[lo:hi:step] -/
end
end DL

/-! list(reversed(l)) -/
namespace DL
open PySem PySem.Spec PyProof.Rows L2 RT
open PySem.Builtin.Int (intBits)
section
variable {prog : Program} {w : World} {A : Around} {E : Value → Shared → Prop} {s : Shared}
end
section
variable {X : Cx}
end
end DL

/-! {k: v, ..} with keys that are written out -/
namespace DL
open PySem PySem.Spec PyProof.Rows L2
open PySem.Builtin.Int (intBits)
section
variable {K : PySem.W.Frag} {mg : Str → Option Value} {W : WX} {A : Nat → Prop}
end
section
variable {X : Cx} {W : WX} {A : Nat → Prop} {pos : Pos}
end
end DL

/-! dict(d); dicts with number and text keys compared -/
namespace DL
open PySem PySem.Spec PyProof.Rows L2
open PySem.Builtin.Int (intBits)
section
variable {X : Cx} {W : WX}
/-! ### == -/
end
end DL

/-! max, min of a list of numbers -/
namespace DL
open PySem PySem.Spec PyProof.Rows L2
open PySem.Builtin.Int (intBits)
section
variable {X : Cx} {W : WX}
end
end DL

/-! slices and sums of lists are new lists -/
namespace DL
open PySem PySem.Spec PyProof.Rows L2
open PySem.Builtin.Int (intBits)
section
variable {X : Cx} {W : WX} {A : Nat → Prop} {a b : Expr} {lo hi : Option Expr} {pos p2 : Pos}
end
end DL

/-! sets of numbers and texts made of a list: how many, and sorted -/
namespace DL
open PySem PySem.Spec PyProof.Rows L2
open PySem.Builtin.Int (intBits)
section
variable {α β : Type} {F : α → β → Prop}
end
def GoodK (P : Program) (w : World) (k : Key) (e : Int × Value) : Prop := (mixKind P w).is k e.2 = true ∧ e.1 = (mixKind P w).hash k ∧ e.2.scannable = true
/-- a set of numbers and texts, that can be walked -/
def SetG (P : Program) (w : World) (h : Heap) (a : Addr) (ks : List Key) : Prop :=
  ∃ o es ep t ls, h.get? a = some o ∧ o.ExactSet ∧ o.data = .set es ep t ∧ Paired (GoodK P w) ls es.toList ∧ ls.Perm ks ∧ ks.Nodup ∧ es.size < scanBound ∧ t.fits es.size = true ∧ L2.Ris t.place.toList ∧ (w.params.followText "set-order" = true ∨ t.led = true)
section
variable {P : Program} {w : World} {A : Around} {E : Value → Shared → Prop} {s : Shared} {a : Addr} {ks : List Key}
theorem SetG.at {h h' : Heap} (R : SetG P w h a ks) (k : ∀ o, h.get? a = some o → h'.get? a = some o) : SetG P w h' a ks := by
  obtain ⟨o, es, ep, t, ls, ho, r⟩ := R
  exact ⟨o, es, ep, t, ls, k o ho, r⟩
set_option maxRecDepth 100000 in
set_option maxHeartbeats 3200000 in
end
end DL

/-! len(set(l)), sorted(set(l)) of numbers and texts -/
namespace DL
open PySem PySem.Spec PyProof.Rows L2
section
open PySem.W PySem.Calls PySem.SeqAt
variable {prog : Program} {w : World} {A : Around} {s : Shared}
end
/-! ### keys in order -/
/-! ### the rules -/
section
variable {X : Cx} {W : WX} {A : Nat → Prop} {a : Expr} {p p2 q pos : Pos}
end
end DL

/-! len(set(l)), sorted(set(l)), max(l, default=c) over data -/
namespace DL
open PySem PySem.Spec PyProof.Rows L2
section
variable {X : Cx} {W : WX} {A : Nat → Prop} {a : Expr} {p p2 q pos : Pos}
/-! max(l, default=c) -/
end
end DL

/-! a <= b <= c <= d; l.count(n) -/
namespace DL
open PySem PySem.Spec PyProof.Rows L2
section
variable {X : Cx} {W : WX} {A : Nat → Prop} {a b c d : Expr} {pos : Pos}
/-! l.count(n) of whole numbers -/
end
end DL

/-! a tuple times a number, the factor one, too -/
namespace L2
open PySem PySem.Spec PyProof.Rows
variable {X : Cx}
end L2
namespace DL
open PySem PySem.Spec PyProof.Rows L2
section
variable {X : Cx} {W : WX}
end
end DL

/-! a def that is handed a list of the caller's own as its first value and gives back one of its own -/
namespace DL
open PySem PySem.Spec PyProof.Rows L2
/-- such a def's promise -/
def spO (K : PySem.W.Frag) (mg : Str → Option Value) (n : Nat) (F : List D → Res D) : Sp := fun vs H Q E => vs.length = n ∧ ∃ a vr d dr G Hm, vs = .ref a :: vr ∧ Sub G Hm ∧ Sub Hm H ∧ Hm a = none ∧ OwnC K H G d a ∧ RepL K G dr vr ∧
  PostG K mg E Hm G (F (d :: dr)) fun r H' G' => ∀ b, Hm b = none → G' b = none → OwnC K H' G' r b → Q (.ref b) H'
structure CallOkO (P : Program) (w : World) (K : PySem.W.Frag) (mg : Str → Option Value) (base : Heap) (k : Nat) (x : Str) (ps : List Str) (F : List D → Res D) : Prop where
  ok : ∃ f fd, mg x = some (.ref f) ∧ PySem.W.keepIn K (.ref f) = true ∧ Binds K fd ps [] ∧ FnOk P w K mg base (L2.CX P w) k f fd ps (spO K mg ps.length F)
theorem CallOkO.up {P : Program} {w : World} {K : PySem.W.Frag} {mg : Str → Option Value} {base : Heap} {j k : Nat} {x : Str} {ps : List Str} {F : List D → Res D} (h : CallOkO P w K mg base j x ps F) (hjk : j ≤ k) : CallOkO P w K mg base k x ps F :=
  let ⟨f, fd, h1, h2, h3, h4⟩ := h.ok
  ⟨f, fd, h1, h2, h3, h4.mono hjk⟩
section
variable {X : Cx} {W : WX} {H0 : Bas} {G0 : Hp} {al : List Nat} {pos p : Pos}
end
end DL

/-! d.values() as a value; max(d.values(), default=c) -/
namespace L2
open PySem PySem.Spec PyProof.Rows
section
variable {X : Cx} {o : Expr} {apos mpos : Pos} {td : TE}
end
end L2
namespace DL
open PySem PySem.Spec PyProof.Rows L2
section
variable {X : Cx} {W : WX} {A : Nat → Prop} {o : Expr} {apos mpos p pos : Pos}
theorem Rd.mono' {H H' : Hp} (h : Sub H H') {a : Addr} {u : HO} (r : Rd H a u) : Rd H' a u := h.rd r
end
end DL

/-! comprehensions within one another -/
namespace DL
open PySem PySem.Spec PyProof.Rows L2
end DL

/-! dicts that are walked: keys, values, items -/
namespace DL
open PySem PySem.Spec PyProof.Rows L2
section
variable {X : Cx} {pins : List (Addr × Obj)} {σ : L2.St} {H : Hp} {s : Shared} {d : Addr} {o : Obj}
end
section
variable {P : Program} {w : World} {K : PySem.W.Frag} {tg : Expr} {d : Addr} {o : Obj} {es : Array DictEntry} {ep : Nat}
end
section
variable {X : Cx} {tg e : Expr} {td : TE} {apos cpos : Pos}
end
/-! what they walk, as data -/
section
variable {K : PySem.W.Frag} {B G : Hp} {d : Addr} {o : Obj}
end
section
variable {X : Cx} {W : WX} {A : Nat → Prop} {tg ex : Expr} {f : DL.Env → Res D} {apos cpos : Pos}
end
end DL

/-! dicts with tuple keys compared (values whole numbers) -/
namespace DL.EqH
open Lean PySem PySem.Calls PyProof.Rows PyProof.V PySem.Spec PySem.W
section
variable {prog : Program} {w : World} {K : Type} [DecidableEq K] {knd : HeapKind prog w K} {A : Around} {E : Value → Shared → Prop} {s : Shared}
inductive HitsH {K : Type} [DecidableEq K] (A : Around) (s : Shared) (kb : List (K × Addr × Value)) : List (K × Addr × Value) → Bool → Prop
  | nil : HitsH A s kb [] true
  | miss {k : K} {v : Addr × Value} {r : List (K × Addr × Value)} : (∀ (j : Nat) (p : Addr × Value), kb[j]? ≠ some (k, p)) → HitsH A s kb ((k, v) :: r) false
  | hit {k : K} {v y : Addr × Value} {r : List (K × Addr × Value)} {e b : Bool} {j : Nat} : kb[j]? = some (k, y) → SeqAt.EqAt A s v.2 y.2 e → HitsH A s kb r b → HitsH A s kb ((k, v) :: r) (e && b)
theorem HitsH.inv {kb : List (K × Addr × Value)} {k : K} {v : Addr × Value} {r : List (K × Addr × Value)} {b : Bool} (h : HitsH A s kb ((k, v) :: r) b) :
    ((∀ (j : Nat) (p : Addr × Value), kb[j]? ≠ some (k, p)) ∧ b = false) ∨ ∃ (j : Nat) (y : Addr × Value) (e b' : Bool), kb[j]? = some (k, y) ∧ SeqAt.EqAt A s v.2 y.2 e ∧ HitsH A s kb r b' ∧ b = (e && b') := by
  cases h with
  | miss hn => exact .inl ⟨hn, rfl⟩
  | hit hy he hr => exact .inr ⟨_, _, _, _, hy, he, hr, rfl⟩
end
end DL.EqH
namespace DL
open PySem PySem.Spec PyProof.Rows L2
section
variable {X : Cx} {W : WX}
end
end DL

/-! isinstance(e, (A, B, ..)), e the error that a handler names -/
namespace DL
open PySem PySem.Spec PyProof.Rows L2
def anyO : List (Option Bool) → Option Bool
  | [] => some false
  | some true :: _ => some true
  | some false :: r => anyO r
  | none :: _ => none
/-- the tables of several classes, at the class k -/
inductive Tabs (K : PySem.W.Frag) (mg : Str → Option Value) (k : String) : List V → List Value → List (Option Bool) → Prop where
  | nil : Tabs K mg k [] [] []
  | cons {c : Addr} {t : String → Option Bool} {vs : List V} {us : List Value} {os : List (Option Bool)} (h : IsTab K mg (.ref c) t) (r : Tabs K mg k vs us os) : Tabs K mg k (.ref c :: vs) (.ref c :: us) (t k :: os)
theorem Tabs.cls {K : PySem.W.Frag} {mg : Str → Option Value} {k : String} {vs : List V} {us : List Value} {os : List (Option Bool)} (h : Tabs K mg k vs us os) : Paired ClsV vs us := by
  induction h with
  | nil => exact .nil
  | cons _ _ ih => exact .cons (.own _) ih
theorem Tabs.any {K : PySem.W.Frag} {mg : Str → Option Value} {k : String} {C : Addr} (hm : mg (Str.ofString k) = some (.ref C)) {vs : List V} {us : List Value} {os : List (Option Bool)} (h : Tabs K mg k vs us os) : ∀ {b : Bool}, anyO os = some b → PySem.W.kitAny K (.ref C) us = some b := by
  induction h with
  | nil => intro b h; cases h; exact kitAny_nil
  | @cons c t vs us os h r ih =>
    intro b hb
    cases ht : t k with
    | none => rw [ht] at hb; cases hb
    | some z =>
      obtain ⟨C', e, _, h3⟩ := h k z _ ht hm
      cases e
      rw [ht] at hb
      cases z with
      | true => cases hb; exact kitAny_cons h3 (fun z => by cases z) fun _ => rfl
      | false => exact kitAny_cons h3 (fun _ => ih hb) fun z => by cases z
section
variable {X : Cx} {W : WX} {A : Nat → Prop} {pos p p1 p2 : Pos}
end
end DL

/-! a def that is lent lists and dicts of the caller's own: it may change them; the caller has them back -/
namespace DL
open PySem PySem.Spec PyProof.Rows L2
/-- the promise of a def that is lent its parameters at bs -/
def spM (K : PySem.W.Frag) (mg : Str → Option Value) (n : Nat) (bs : List Nat) (F : List D → Res (D × List D)) : Sp := fun vs H Q E => vs.length = n ∧ ∃ (ds : List D) (G : Hp) (B : Bas), Sub G B.hp ∧ Sub B.hp H ∧ ds.length = n ∧
  (∀ i d, ds[i]? = some d → i ∉ bs → ∃ v, vs[i]? = some v ∧ Rep K G d v) ∧
  (∀ i d, ds[i]? = some d → i ∈ bs → ∃ a, B.pin i = some a ∧ vs[i]? = some (.ref a) ∧ B.hp a = none ∧ OwnC K H G d a) ∧
  (∀ i, i ∉ bs → B.pin i = none) ∧ (∀ i j a, B.pin i = some a → B.pin j = some a → i = j) ∧
  match F ds with
  | .ok (r, cs) => ∀ H' G', Ext B.hp G H' G' → (∀ (k i : Nat) c, bs[k]? = some i → cs[k]? = some c → ∃ a, B.pin i = some a ∧ B.hp a = none ∧ G' a = none ∧ OwnC K H' G' c a) → ∀ v, Rep K G' r v → Q v H'
  | .exc c fs => ∀ cls o H', Sub B.hp H' → IsExc K mg c fs cls o B.hp H' → E cls o H'
  | .bad => False
structure CallOkM (P : Program) (w : World) (K : PySem.W.Frag) (mg : Str → Option Value) (base : Heap) (k : Nat) (x : Str) (ps : List Str) (bs : List Nat) (F : List D → Res (D × List D)) : Prop where
  ok : ∃ f fd, mg x = some (.ref f) ∧ PySem.W.keepIn K (.ref f) = true ∧ Binds K fd ps [] ∧ FnOk P w K mg base (L2.CX P w) k f fd ps (spM K mg ps.length bs F)
theorem CallOkM.up {P : Program} {w : World} {K : PySem.W.Frag} {mg : Str → Option Value} {base : Heap} {j k : Nat} {x : Str} {ps : List Str} {bs : List Nat} {F : List D → Res (D × List D)} (h : CallOkM P w K mg base j x ps bs F) (hjk : j ≤ k) : CallOkM P w K mg base k x ps bs F :=
  let ⟨f, fd, h1, h2, h3, h4⟩ := h.ok
  ⟨f, fd, h1, h2, h3, h4.mono hjk⟩
/-- the names at the start, those at bs lent -/
def envMa (bs : List Nat) : Nat → List D → Env
  | _, [] => []
  | k, d :: r => some (d, bs.elem k) :: envMa bs (k + 1) r
end DL

/-! calls of such defs: what is written, some of it lent -/
namespace DL
open PySem PySem.Spec PyProof.Rows L2
/-- what is handed over: a value, the list or dict of a name of one's own, a new list or dict -/
inductive MA where
  | val (d : D)
  | own (i : Nat)
  | new (d : D)
def RelM (K : PySem.W.Frag) (H G : Hp) (σ : L2.St) : List MA → List V → Prop
  | [], vs => vs = []
  | .val d :: r, vs => ∃ v l, vs = v :: l ∧ Rep K G d v ∧ RelM K H G σ r l
  | .own i :: r, vs => ∃ v l, vs = v :: l ∧ σ[i]? = some (some v) ∧ RelM K H G σ r l
  | .new d :: r, vs => ∃ a l, vs = .ref a :: l ∧ G a = none ∧ OwnC K H G d a ∧ RelM K H G σ r l
section
variable (K : PySem.W.Frag) (mg : Str → Option Value) (W : WX) (A : Nat → Prop)
end
section
variable {X : Cx} {W : WX} {A : Nat → Prop} {a : Expr} {es : List Expr} {H0 : Bas} {G0 : Hp} {al : List Nat} {pos p : Pos}
end
end DL

/-! the call itself -/
namespace DL
open PySem PySem.Spec PyProof.Rows L2
theorem RelM.length {K : PySem.W.Frag} {H G : Hp} {σ : L2.St} : ∀ {l : List MA} {vs : List V}, RelM K H G σ l vs → vs.length = l.length
  | [], _, h => by rw [show _ = [] from h]; rfl
  | .val _ :: _, _, ⟨v, r, e, _, h⟩ => by rw [e, List.length_cons, List.length_cons, RelM.length h]
  | .own _ :: _, _, ⟨v, r, e, _, h⟩ => by rw [e, List.length_cons, List.length_cons, RelM.length h]
  | .new _ :: _, _, ⟨v, r, e, _, _, h⟩ => by rw [e, List.length_cons, List.length_cons, RelM.length h]
/-- what is so of a thing handed over -/
def AtM (K : PySem.W.Frag) (H G : Hp) (σ : L2.St) : MA → V → Prop
  | .val d, v => Rep K G d v
  | .own i, v => σ[i]? = some (some v)
  | .new d, v => ∃ a, v = .ref a ∧ G a = none ∧ OwnC K H G d a
theorem RelM.at {K : PySem.W.Frag} {H G : Hp} {σ : L2.St} : ∀ {l : List MA} {vs : List V} {k : Nat} {z : MA}, RelM K H G σ l vs → l[k]? = some z → ∃ v, vs[k]? = some v ∧ AtM K H G σ z v
  | .val d :: _, _, 0, _, ⟨v, r, e, h1, _⟩, h => by cases h; exact ⟨v, by rw [e]; rfl, h1⟩
  | .own i :: _, _, 0, _, ⟨v, r, e, h1, _⟩, h => by cases h; exact ⟨v, by rw [e]; rfl, h1⟩
  | .new i :: _, _, 0, _, ⟨v, r, e, h1, h2, _⟩, h => by cases h; exact ⟨.ref v, by rw [e]; rfl, v, rfl, h1, h2⟩
  | .val _ :: l, _, k + 1, z, ⟨v, r, e, _, h2⟩, h => by
    obtain ⟨w, h3, h4⟩ := RelM.at (k := k) (z := z) h2 (by simpa using h)
    exact ⟨w, by rw [e]; simpa using h3, h4⟩
  | .own _ :: l, _, k + 1, z, ⟨v, r, e, _, h2⟩, h => by
    obtain ⟨w, h3, h4⟩ := RelM.at (k := k) (z := z) h2 (by simpa using h)
    exact ⟨w, by rw [e]; simpa using h3, h4⟩
  | .new _ :: l, _, k + 1, z, ⟨v, r, e, _, _, h2⟩, h => by
    obtain ⟨w, h3, h4⟩ := RelM.at (k := k) (z := z) h2 (by simpa using h)
    exact ⟨w, by rw [e]; simpa using h3, h4⟩
section
variable {K : PySem.W.Frag} {H0 : Bas} {G0 H G : Hp} {σ : L2.St}
end
end DL

/-! statements that call a def that is lent lists and dicts -/
namespace DL
open PySem PySem.Spec PyProof.Rows L2
section
variable {X : Cx} {W : WX} {H0 : Bas} {G0 : Hp} {al : List Nat} {pos : Pos}
end
end DL

/-! defs that are lent things and call themselves; a, b = f(..) of such a def -/
namespace DL
open PySem PySem.Spec PyProof.Rows L2
section
variable {X : Cx} {W : WX} {H0 : Bas} {G0 : Hp} {al : List Nat} {pos : Pos}
end
end DL

/-! d.update(e) of dicts with number or text keys; statements that are never reached -/
namespace DL
open PySem PySem.Spec PyProof.Rows L2
section
variable {X : Cx}
end
section
variable {X : Cx} {W : WX} {H0 : Bas} {G0 : Hp} {al : List Nat} {ex : Expr} {es : List Expr} {pos apos cpos p1 p2 : Pos}
end
end DL

/-! a text walked, sign by sign -/
namespace DL
open PySem PySem.Spec PyProof.Rows L2
section
variable {X : Cx} {W : WX} {A : Nat → Prop} {ex : Expr}
end
/-! a list, a tuple or a text -/
section
variable {X : Cx} {W : WX} {A : Nat → Prop} {ex : Expr}
end
end DL

/-! tuples without a dict of their own: tuple(l), t + u, t[a:b], t.index(x), t.count(x), dict(t) -/
namespace DL
open PySem PySem.Spec PyProof.Rows L2
open PySem.Builtin.Int (intBits)
/-- its object -/
theorem PlT.obj {X : Cx} {pins : List (Addr × Obj)} {σ : L2.St} {H : Hp} {s : Shared} {a : Addr} {xs : List V} (I : Inv X pins σ H s) (h : PlT X.K H a xs) :
    ∃ (its : List Value) (o : Obj) (n : Nat), Vals xs its ∧ s.heap.get? a = some o ∧ o.cls = .type "tuple" ∧ o.dict = none ∧ o.data = .seq its.toArray n ∧ xs.length ≤ sizeLine := by
  rcases h with ⟨o, h, d⟩ | ⟨o, its, n, hk, hc, hd, hs, hz, r⟩
  · obtain ⟨e, z, its, r, o', e', c, n, q⟩ := I.hok a _ h
    rw [e] at e'; cases e'
    exact ⟨its, o, n, r, e, c, d, q, z⟩
  · refine ⟨its.toList, o, n, r, I.kIn a o hk, hc, hd, by simpa using hs, ?_⟩
    have e := r.length
    simp only [Array.length_toList] at e
    omega
section
variable {X : Cx} {W : WX} {A : Nat → Prop}
/-! ### tuple(l) -/
/-! ### t + u -/
/-! ### t[a:b] -/
variable {a b e o : Expr} {lo hi : Option Expr} {es : List Expr} {pos p2 apos cpos : Pos}
/-! ### methods -/
/-! ### dict(t), t a tuple of pairs of a row and a value, the rows unlike -/
end
end DL

/-! a written tuple, known to have no dict of its own -/
namespace DL
open PySem PySem.Spec PyProof.Rows L2
open PySem.Builtin.Int (intBits)
section
variable {X : Cx} {W : WX} {A : Nat → Prop} {pos : Pos}
def eTupP (fs : DL.Env → Res (List D)) : DL.Env → Res D := fun e => (fs e).bind fun ds => .ok (.con ds)
@[simp] theorem eTupP_app {fs : DL.Env → Res (List D)} {e : DL.Env} : eTupP fs e = (fs e).bind fun ds => .ok (.con ds) := Eq.trans rfl rfl
end
end DL

/-! a def that gives back a new list or dict of its own -/
namespace DL
open PySem PySem.Spec PyProof.Rows L2
/-- such a def's promise -/
def spN (K : PySem.W.Frag) (mg : Str → Option Value) (n : Nat) (F : List D → Res D) : Sp := fun vs H Q E => vs.length = n ∧ ∃ ds G, Sub G H ∧ RepL K G ds vs ∧ PostG K mg E H G (F ds) fun d H' G' => ∀ a, H a = none → G' a = none → OwnC K H' G' d a → Q (.ref a) H'
structure CallOkN (P : Program) (w : World) (K : PySem.W.Frag) (mg : Str → Option Value) (base : Heap) (k : Nat) (x : Str) (ps : List Str) (F : List D → Res D) : Prop where
  ok : ∃ f fd, mg x = some (.ref f) ∧ PySem.W.keepIn K (.ref f) = true ∧ Binds K fd ps [] ∧ FnOk P w K mg base (L2.CX P w) k f fd ps (spN K mg ps.length F)
theorem CallOkN.up {P : Program} {w : World} {K : PySem.W.Frag} {mg : Str → Option Value} {base : Heap} {j k : Nat} {x : Str} {ps : List Str} {F : List D → Res D} (h : CallOkN P w K mg base j x ps F) (hjk : j ≤ k) : CallOkN P w K mg base k x ps F :=
  let ⟨f, fd, h1, h2, h3, h4⟩ := h.ok
  ⟨f, fd, h1, h2, h3, h4.mono hjk⟩
section
variable {X : Cx} {W : WX} {ex : Expr} {es : List Expr} {pos : Pos}
end
end DL

/-! texts of numbers, put together and taken apart -/
namespace DL
open PySem PySem.Spec PyProof.Rows L2
/-! ### str(number) -/
/-! ### int(text) -/
/-! ### texts in a row -/
/-! ### sep.join(texts) -/
section
variable {X : Cx} {W : WX} {A : Nat → Prop} {o ex : Expr} {apos pos : Pos}
/-! ### f-strings -/
/-- the parts' judgements -/
inductive DJ (X : Cx) (W : WX) (A : Nat → Prop) : List Expr → List (DL.Env → Res D) → Prop where
  | nil : DJ X W A [] []
  | cons {e : Expr} {f : DL.Env → Res D} {es : List Expr} {fs : List (DL.Env → Res D)} (h : DE X W A e f) (r : DJ X W A es fs) : DJ X W A (e :: es) (f :: fs)
end
end DL
namespace L2
open PySem PySem.Spec PyProof.Rows
section
variable {X : Cx} {o : Expr} {apos mpos : Pos} {td : TE}
end
end L2
namespace DL
open PySem PySem.Spec PyProof.Rows L2
section
variable {X : Cx} {W : WX} {A : Nat → Prop} {o : Expr} {apos mpos p pos : Pos}
/-! ### x.split(sep) -/
end
end DL

/-! several except clauses, each with a name for the error -/
namespace L2
open PySem PySem.Spec PyProof.Rows
inductive HdAs (X : Cx) : List ExceptHandler → List (Value × Nat × (Addr → Value → Option Addr → TS)) → Prop
  | nil : HdAs X [] []
  | cons {x n : Str} {c : Value} {i : Nat} {ts : Addr → Value → Option Addr → TS} {b₀ : Stmt} {suite : List Stmt} {np pos' : Pos} {hds : List ExceptHandler} {l : List (Value × Nat × (Addr → Value → Option Addr → TS))} (hc : Names X x c)
      (hi : X.N[i]? = some n) (hln : X.env.kindOf n = some .local)
      (hsu : ∀ (a : Addr) (oe : Obj) (cls : Value) (d : Option Addr) (pn : List (Addr × Obj)), Zc cls d oe → (∃ vs, oe.data = .fields vs) → PSs (X.suite a ((a, oe) :: pn)) (b₀ :: suite) (ts a cls d)) (r : HdAs X hds l) :
      HdAs X (.ExceptHandler (some (.Name x np)) (some n) (b₀ :: suite) pos' :: hds) ((c, i, ts) :: l)
section
variable {X : Cx} {body : List Stmt} {h₀ : ExceptHandler} {hds : List ExceptHandler} {l : List (Value × Nat × (Addr → Value → Option Addr → TS))} {pos : Pos} {tb : WX → TS} {Wout : WX}
end
end L2
namespace DL
open PySem PySem.Spec PyProof.Rows L2
/-- a clause: the slot of its name, what it does at each class, its suite -/
abbrev Hdl := Nat × (String → Option Bool) × (Addr → String → DL.Env → Out)
section
variable {X : Cx} {W : WX} {pos : Pos} {H0 : Bas} {G0 : Hp}
inductive HdD (X : Cx) (H0 : Bas) (G0 : Hp) : List ExceptHandler → List Hdl → Prop
  | nil : HdD X H0 G0 [] []
  | cons {i : Nat} {x n : Str} {c : Value} {suite : List Stmt} {b₀ : Stmt} {np pos' : Pos} {h : String → Option Bool} {fs : Addr → String → DL.Env → Out} {hds : List ExceptHandler} {l : List Hdl} (hi : X.N[i]? = some n) (hln : X.env.kindOf n = some .local) (hc : Names X x c) (hh : Clause X.K X.mg c h)
    (hsu : ∀ (a : Addr) (oe : Obj) (cls : Value) (pn : List (Addr × Obj)) (k : String), Zc cls none oe → (∃ vs, oe.data = .fields vs) → X.mg (Str.ofString k) = some cls → DSs (X.suite a ((a, oe) :: pn)) WF H0 G0 (b₀ :: suite) (fs a k)) (r : HdD X H0 G0 hds l) :
    HdD X H0 G0 (.ExceptHandler (some (.Name x np)) (some n) (b₀ :: suite) pos' :: hds) ((i, h, fs) :: l)
end
end DL

/-! a loop over a list of one's own that is kept one's own: through the loop its name stands for the bare value -/
namespace DL
open PySem PySem.Spec PyProof.Rows L2
mutual
/-- numbers, texts, truth values, nothing, and tuples of these -/
def D.tfl : D → Bool
  | .non => true
  | .bl _ => true
  | .int _ => true
  | .str _ => true
  | .tup ds => D.tfls ds
  | _ => false
def D.tfls : List D → Bool
  | [] => true
  | d :: r => D.tfl d && D.tfls r
end
/-- the part G without what stands at a -/
def delA (G : Hp) (a : Addr) : Hp := fun b => if b = a then none else G b
theorem delA_ne {G : Hp} {a b : Addr} (h : b ≠ a) : delA G a b = G b := if_neg h
theorem delA_at {G : Hp} {a : Addr} : delA G a a = none := if_pos rfl
theorem delA_sub (G : Hp) (a : Addr) : Sub (delA G a) G := fun b o e => by
  by_cases h : b = a
  · subst h; rw [delA_at] at e; cases e
  · rw [delA_ne h] at e; exact e
mutual
theorem Rep.del {K : PySem.W.Frag} {G : Hp} {a : Addr} (ha : ∀ vs, G a ≠ some (.tup vs)) : ∀ {d : D} {v : V}, d.tfl = true → Rep K G d v → Rep K (delA G a) d v
  | .non, _, _, e => e
  | .bl _, _, _, e => e
  | .int _, _, _, e => e
  | .str _, _, _, e => e
  | .tup ds, _, f, ⟨t, vs, e, s, r⟩ => ⟨t, vs, e, by rw [delA_ne (fun z => ha vs (by rw [← z]; exact s))]; exact s, RepL.del ha (show D.tfls ds = true from f) r⟩
  | .obj _, _, f, _ => by cases f
  | .err _ _, _, f, _ => by cases f
  | .exn _ _ _, _, f, _ => by cases f
  | .con _, _, f, _ => by cases f
  | .lst _, _, f, _ => by cases f
  | .dct _ _, _, f, _ => by cases f
theorem RepL.del {K : PySem.W.Frag} {G : Hp} {a : Addr} (ha : ∀ vs, G a ≠ some (.tup vs)) : ∀ {ds : List D} {vs : List V}, D.tfls ds = true → RepL K G ds vs → RepL K (delA G a) ds vs
  | [], _, _, e => e
  | d :: r, _, f, ⟨v, w, e, x, y⟩ => ⟨v, w, e, Rep.del ha (Bool.and_eq_true_iff.mp f).1 x, RepL.del ha (Bool.and_eq_true_iff.mp f).2 y⟩
end
theorem Ext.del {H G H' G' : Hp} {a : Addr} {o : HO} (g : G a = none) (x : Ext H (upd G a o) H' G') : Ext H G H' (delA G' a) := by
  refine ⟨x.hh, fun b u e => ?_, (delA_sub G' a).trans x.gh, fun b z => ?_⟩
  · have hb : b ≠ a := fun z => by rw [z, g] at e; cases e
    rw [delA_ne hb]
    exact x.gg b u (by rw [upd_ne hb]; exact e)
  · by_cases hb : b = a
    · subst hb; exact absurd delA_at z
    · rw [delA_ne hb] at z
      rcases x.new b z with h | h
      · rw [upd_ne hb] at h; exact .inl h
      · exact .inr h
section
variable {K : PySem.W.Frag} {H0 : Bas} {G0 H G : Hp} {σ : L2.St} {e : Env}
end
section
variable {X : Cx} {W : WX} {H0 : Bas} {G0 : Hp} {pos : Pos}
end
end DL

namespace DL
open PySem PySem.Spec PyProof.Rows L2
open PySem.Builtin.Int (intBits)

/-- a bound that range takes -/
def Rg (n : Int) : Prop := -(2 ^ 62) ≤ n ∧ n < 2 ^ 62
theorem Rg.of {n : Int} (h : -1000000000 ≤ n) (k : n ≤ 1000000000) : Rg n := ⟨by omega, by omega⟩
open Classical in
noncomputable def range1D : D → Res (List D) := fun d => match d with
  | .int n => if Rg n then .ok (rangeD 0 n) else .bad
  | _ => .bad
open Classical in
noncomputable def range2D : D → D → Res (List D) := fun d d2 => match d, d2 with
  | .int m, .int n => if Rg m ∧ Rg n then .ok (rangeD m n) else .bad
  | _, _ => .bad
@[simp] theorem range1D_int (n : Int) (h : Rg n) : range1D (.int n) = .ok (rangeD 0 n) := if_pos h
@[simp] theorem range2D_int (m n : Int) (h : Rg m) (k : Rg n) : range2D (.int m) (.int n) = .ok (rangeD m n) := if_pos ⟨h, k⟩
theorem iRange1_is (f : DL.Env → Res D) (e : DL.Env) : iRange1 f e = (f e).bind range1D := by
  unfold iRange1
  congr 1
  funext d
  cases d with
  | int n =>
    dsimp only [range1D]
    by_cases h : Rg n
    · rw [if_pos (show -(2 ^ 62) ≤ n ∧ n < 2 ^ 62 from h), if_pos h]
    · rw [if_neg (show ¬ (-(2 ^ 62) ≤ n ∧ n < 2 ^ 62) from h), if_neg h]
  | _ => rfl
theorem iRange2_is (f g : DL.Env → Res D) (e : DL.Env) : iRange2 f g e = (f e).bind fun d => (g e).bind fun d2 => range2D d d2 := by
  unfold iRange2
  congr 1
  funext d
  congr 1
  funext d2
  cases d with
  | int m =>
    cases d2 with
    | int n =>
      dsimp only [range2D]
      by_cases h : Rg m ∧ Rg n
      · rw [if_pos h, if_pos ⟨h.1.1, h.1.2, h.2.1, h.2.2⟩]
      · rw [if_neg h, if_neg fun z => h ⟨⟨z.1, z.2.1⟩, z.2.2.1, z.2.2.2⟩]
    | _ => rfl
  | _ => rfl
/-! ### a body's reckoning, step by step -/
section
variable (al : List Nat) (i : Nat) (e : DL.Env) (f fa fb fc : DL.Env → Res D) (ft fu : DL.Env → Res Bool) (g h : DL.Env → Out) (fs : DL.Env → Res (List D)) (d : D) (ds : List D) (op : D → D → Res D) (op1 : D → Res D)
@[simp] theorem eVarS_app : eVarS i e = (match e[i]? with | some (some (d, false)) => .ok d | _ => .bad) := Eq.trans rfl rfl
@[simp] theorem eVar_app : eVar i e = (match e[i]? with | some (some (d, _)) => .ok d | _ => .bad) := Eq.trans rfl rfl
@[simp] theorem eC_app : eC d e = .ok d := Eq.trans rfl rfl
@[simp] theorem eOp_app : eOp op fa fb e = (fa e).bind fun x => (fb e).bind fun y => op x y := Eq.trans rfl rfl
@[simp] theorem e1_app : e1 op1 f e = (f e).bind op1 := Eq.trans rfl rfl
@[simp] theorem eNeg_app : eNeg f e = (f e).bind fun x => (match x with | .int i => .ok (.int (-i)) | _ => .bad) := Eq.trans rfl rfl
@[simp] theorem eTup_app : eTup fs e = (fs e).bind fun ds => .ok (.tup ds) := Eq.trans rfl rfl
@[simp] theorem eLst_app : eLst fs e = (fs e).bind fun ds => .ok (.lst ds) := Eq.trans rfl rfl
@[simp] theorem aNil_app : aNil e = .ok [] := Eq.trans rfl rfl
@[simp] theorem aCons_app : aCons f fs e = (f e).bind fun d => (fs e).bind fun ds => .ok (d :: ds) := Eq.trans rfl rfl
@[simp] theorem eCall_app (F : List D → Res D) : eCall F fs e = (fs e).bind F := Eq.trans rfl rfl
@[simp] theorem eAnd_app : eAnd fa fb e = (fa e).bind fun x => (D.asB x).bind fun b => if b = true then fb e else .ok (.bl false) := Eq.trans rfl rfl
@[simp] theorem eOr_app : eOr fa fb e = (fa e).bind fun x => (D.asB x).bind fun b => if b = true then .ok (.bl true) else fb e := Eq.trans rfl rfl
@[simp] theorem eNot_app : eNot f e = (f e).bind fun x => (D.asB x).bind fun b => .ok (.bl (!b)) := Eq.trans rfl rfl
@[simp] theorem eIf_app : eIf ft fa fb e = (ft e).bind fun b => if b = true then fa e else fb e := Eq.trans rfl rfl
@[simp] theorem bTest_app : bTest op fa fb e = (fa e).bind fun x => (fb e).bind fun y => (op x y).bind D.asB := Eq.trans rfl rfl
@[simp] theorem bTruth_app : bTruth f e = (f e).bind D.truth := Eq.trans rfl rfl
@[simp] theorem bAnd_app : bAnd ft fu e = (ft e).bind fun b => if b = true then fu e else .ok false := Eq.trans rfl rfl
@[simp] theorem bOr_app : bOr ft fu e = (ft e).bind fun b => if b = true then .ok true else fu e := Eq.trans rfl rfl
@[simp] theorem bNot_app : bNot ft e = (ft e).bind fun b => .ok (!b) := Eq.trans rfl rfl
@[simp] theorem bVal_app : bVal f e = (f e).bind D.asB := Eq.trans rfl rfl
@[simp] theorem oNone_app : oNone e = .ok none := Eq.trans rfl rfl
@[simp] theorem oSome_app : oSome f e = (f e).bind fun d => (match d with | .int i => .ok (some i) | _ => .bad) := Eq.trans rfl rfl
@[simp] theorem eCut_app (fl fh : DL.Env → Res (Option Int)) : eCut f fl fh e = (f e).bind fun d => (fl e).bind fun lo => (fh e).bind fun hi => dCut lo hi d := Eq.trans rfl rfl
@[simp] theorem iSeq_app : iSeq f e = (f e).bind fun d => (match d with | .lst xs => .ok xs | .tup xs => .ok xs | .con xs => .ok xs | _ => .bad) := Eq.trans rfl rfl
@[simp] theorem iRange1_app : iRange1 f e = (f e).bind range1D := iRange1_is f e
@[simp] theorem iRange2_app : iRange2 fa fb e = (fa e).bind fun d => (fb e).bind fun d2 => range2D d d2 := iRange2_is fa fb e
@[simp] theorem iRange3_app : iRange3 fa fb fc e = (fa e).bind fun x => (fb e).bind fun y => (fc e).bind fun z => r3D x y z := Eq.trans rfl rfl
@[simp] theorem r3D_int (i j c : Int) : r3D (.int i) (.int j) (.int c) = rg3 i j c := Eq.trans rfl rfl
@[simp] theorem sTry_app (hh : String → Option Bool) : sTry hh g h e = (match g e with | .ex c fs' e' => (match hh c with | some true => noEx (h e') | some false => .ex c fs' e' | none => .bad) | r => r) := Eq.trans rfl rfl
@[simp] theorem sTryAs_app (hh : String → Option Bool) (fs : Addr → String → DL.Env → Out) : sTryAs i hh g fs e = (match g e with | .ex c fs' e' => (match hh c with | some true => if fs' = [] then unif (fun a => clrN i (fs a c (e'.set i (some (.obj (.ref a), false))))) else .bad | some false => .ex c fs' e' | none => .bad) | r => r) := Eq.trans rfl rfl
@[simp] theorem clrN_nx : clrN i (.nx e) = .nx (e.set i none) := Eq.trans rfl rfl
@[simp] theorem clrN_rt : clrN i (.rt d) = .rt d := Eq.trans rfl rfl
@[simp] theorem clrN_ro : clrN i (.ro d) = .ro d := Eq.trans rfl rfl
@[simp] theorem unif_const (r : Out) : (unif fun _ => r) = r := unif_of fun _ => rfl
@[simp] theorem eIsE_app (a : Addr) (o : Option Bool) : eIsE i a o e = (match e[i]? with | some (some (.obj (.ref a'), false)) => if a' = a then (match o with | some b => .ok (.bl b) | none => .bad) else .bad | _ => .bad) := Eq.trans rfl rfl
@[simp] theorem dStr_bl (b : Bool) : dStr (.bl b) = .ok (.str (if b = true then "True" else "False")) := Eq.trans rfl rfl
@[simp] theorem noEx_nx : noEx (.nx e) = .nx e := Eq.trans rfl rfl
@[simp] theorem noEx_rt : noEx (.rt d) = .rt d := Eq.trans rfl rfl
@[simp] theorem noEx_ro : noEx (.ro d) = .ro d := Eq.trans rfl rfl
@[simp] theorem sRetO_app : sRetO i e = (match e[i]? with | some (some (d, true)) => .ro d | some (some (d, false)) => .rt d | _ => .bad) := Eq.trans rfl rfl
@[simp] theorem sRetF_app : sRetF al f e = (match f e with | .ok d => .ro d | .exc c fs => .ex c fs (fz al e) | .bad => .bad) := by unfold sRetF sE; cases f e <;> rfl
@[simp] theorem sSkip_app : sSkip e = .nx e := Eq.trans rfl rfl
@[simp] theorem sBreak_app : sBreak e = .bk e := Eq.trans rfl rfl
@[simp] theorem sCont_app : sCont e = .ct e := Eq.trans rfl rfl
@[simp] theorem sRetN_app : sRetN e = .rt .non := Eq.trans rfl rfl
@[simp] theorem sRaise_app (c : String) : sRaise c e = .ex c [] e := Eq.trans rfl rfl
@[simp] theorem sSeq_app : sSeq g h e = (match g e with | .nx e' => h e' | r => r) := Eq.trans rfl rfl
@[simp] theorem sIf_app : sIf al ft g h e = (match ft e with | .ok b => if b = true then g (fz al e) else h (fz al e) | .exc c fs => .ex c fs (fz al e) | .bad => .bad) := by unfold sIf sE; cases ft e <;> rfl
@[simp] theorem sRet_app : sRet al f e = (match f e with | .ok d => .rt d | .exc c fs => .ex c fs (fz al e) | .bad => .bad) := by unfold sRet sE; cases f e <;> rfl
@[simp] theorem sDrop_app : sDrop al f e = (match f e with | .ok d => .nx (fz al e) | .exc c fs => .ex c fs (fz al e) | .bad => .bad) := by unfold sDrop sE; cases f e <;> rfl
@[simp] theorem sSet_app : sSet al i f e = (match f e with | .ok d => .nx ((fz al e).set i (some (d, false))) | .exc c fs => .ex c fs (fz al e) | .bad => .bad) := by unfold sSet sE; cases f e <;> rfl
@[simp] theorem sSetF_app : sSetF al i f e = (match f e with | .ok d => .nx ((fz al e).set i (some (d, true))) | .exc c fs => .ex c fs (fz al e) | .bad => .bad) := by unfold sSetF sE; cases f e <;> rfl
@[simp] theorem sAsg_app (p : Pat) : sAsg al p f e = (match f e with | .ok d => (match p.bind d (fz al e) with | .ok e' => .nx e' | _ => .bad) | .exc c fs => .ex c fs (fz al e) | .bad => .bad) := by unfold sAsg sE; cases f e <;> rfl
@[simp] theorem sPar_app (j : Nat) : sPar al i j fs e = (match fs e with | .ok ds => (match ds with | [x, y] => .nx (((fz al e).set i (some (x, false))).set j (some (y, false))) | _ => .bad) | .exc c fs => .ex c fs (fz al e) | .bad => .bad) := by unfold sPar sE; cases fs e <;> rfl
@[simp] theorem sFor_app (p : Pat) : sFor al p fs g e = (match fs e with | .ok ds => turns p g ds (fz al e) | .exc c fs => .ex c fs (fz al e) | .bad => .bad) := by unfold sFor sE; cases fs e <;> rfl
@[simp] theorem fz_cons (r : List Nat) : fz (i :: r) e = fz r (unown i e) := Eq.trans rfl rfl
@[simp] theorem unown_app : unown i e = (match e[i]? with | some (some (d, true)) => e.set i (some (d, false)) | _ => e) := Eq.trans rfl rfl
@[simp] theorem bindnm_app : Pat.bind (.nm i) d e = .ok (e.set i (some (d, false))) := Eq.trans rfl rfl
@[simp] theorem bindtp_app (ps : List Pat) : Pat.bind (.tp ps) (.tup ds) e = Pat.binds ps ds e := Eq.trans rfl rfl
@[simp] theorem binds_nil : Pat.binds [] [] e = .ok e := Eq.trans rfl rfl
@[simp] theorem binds_cons (p : Pat) (ps : List Pat) : Pat.binds (p :: ps) (d :: ds) e = (Pat.bind p d e).bind fun e' => Pat.binds ps ds e' := Eq.trans rfl rfl
@[simp] theorem asB_bl (b : Bool) : D.asB (.bl b) = .ok b := Eq.trans rfl rfl
@[simp] theorem dLt_int (i j : Int) : dLt (.int i) (.int j) = .ok (.bl (decide (i < j))) := Eq.trans rfl rfl
@[simp] theorem dLe_int (i j : Int) : dLe (.int i) (.int j) = .ok (.bl (decide (i ≤ j))) := Eq.trans rfl rfl
@[simp] theorem dGt_int (i j : Int) : dGt (.int i) (.int j) = .ok (.bl (decide (j < i))) := Eq.trans rfl rfl
@[simp] theorem dGe_int (i j : Int) : dGe (.int i) (.int j) = .ok (.bl (decide (j ≤ i))) := Eq.trans rfl rfl
@[simp] theorem dAdd_int (i j : Int) : dAdd (.int i) (.int j) = .ok (.int (i + j)) := Eq.trans rfl rfl
@[simp] theorem dSub_int (i j : Int) : dSub (.int i) (.int j) = .ok (.int (i - j)) := Eq.trans rfl rfl
@[simp] theorem dMod_int (i j : Int) : dMod (.int i) (.int j) = (if j ≠ 0 then .ok (.int (i.fmod j)) else .bad) := Eq.trans rfl rfl
@[simp] theorem dAbs_int (i : Int) : dAbs (.int i) = .ok (.int (i.natAbs : Int)) := by
  show Res.ok (D.int (if i < 0 then -i else i)) = _
  congr 2
  split <;> omega
@[simp] theorem dLen_lst : dLen (.lst ds) = .ok (.int ds.length) := Eq.trans rfl rfl
@[simp] theorem dLen_tup : dLen (.tup ds) = .ok (.int ds.length) := Eq.trans rfl rfl
@[simp] theorem dLen_con : dLen (.con ds) = .ok (.int ds.length) := Eq.trans rfl rfl
@[simp] theorem dLen_dct (t : Bool) (kvs : List (D × D)) : dLen (.dct t kvs) = .ok (.int kvs.length) := Eq.trans rfl rfl
@[simp] theorem isInt_int (i : Int) : isInt (.int i) = .ok (.bl true) := Eq.trans rfl rfl
@[simp] theorem isBool_int (i : Int) : isBool (.int i) = .ok (.bl false) := Eq.trans rfl rfl
@[simp] theorem isTup_tup : isTup (.tup ds) = .ok (.bl true) := Eq.trans rfl rfl
@[simp] theorem dTuple_lst : dTuple (.lst ds) = .ok (.tup ds) := Eq.trans rfl rfl
@[simp] theorem dTuple_tup : dTuple (.tup ds) = .ok (.tup ds) := Eq.trans rfl rfl
@[simp] theorem dList_lst : dList (.lst ds) = .ok (.lst ds) := Eq.trans rfl rfl
@[simp] theorem dList_tup : dList (.tup ds) = .ok (.lst ds) := Eq.trans rfl rfl
@[simp] theorem dMax_int (i j : Int) : dMax (.int i) (.int j) = .ok (.int (if i < j then j else i)) := Eq.trans rfl rfl
@[simp] theorem dMin_int (i j : Int) : dMin (.int i) (.int j) = .ok (.int (if j < i then j else i)) := Eq.trans rfl rfl
@[simp] theorem sMut_app (gm : List D → List D → Option (List D)) : sMut al i gm fs e = ownL i (fz al e) (fun xs => sE al fs (fun ds e' => match gm xs ds with
    | some ys => .nx (e'.set i (some (.lst ys, true)))
    | none => .bad) e) := Eq.trans rfl rfl
end
@[simp] theorem ownL_app (i : Nat) (e : DL.Env) (k : List D → Out) : ownL i e k = (match e[i]? with | some (some (.lst xs, true)) => k xs | _ => .bad) := Eq.trans rfl rfl
@[simp] theorem sE_app {α : Type} (al : List Nat) (e : DL.Env) (fa : DL.Env → Res α) (k : α → DL.Env → Out) : sE al fa k e = (match fa e with | .ok a => k a (fz al e) | .exc c fs => .ex c fs (fz al e) | .bad => .bad) := Eq.trans rfl rfl
/-! equality -/
@[simp] theorem dEq_int (i j : Int) : dEq (.int i) (.int j) = .ok (.bl (decide (i = j))) := by
  simp [dEq, D.pl, D.beq, D.py, PyData.eqv]
  exact Bool.eq_iff_iff.mpr (by simp)
@[simp] theorem dNe_int (i j : Int) : dNe (.int i) (.int j) = .ok (.bl (!decide (i = j))) := by
  simp [dNe, D.pl, D.beq, D.py, PyData.eqv]
  exact Bool.eq_iff_iff.mpr (by simp)
@[simp] theorem dAdd_lst (a b : List D) (h : a.length + b.length ≤ sizeLine) : dAdd (.lst a) (.lst b) = .ok (.lst (a ++ b)) := if_pos h
@[simp] theorem dIx_tup0 (a : D) (r : List D) : dIx (.tup (a :: r)) (.int 0) = .ok a := by simp [dIx, atI, ixN]
@[simp] theorem dIx_tup1 (a b : D) (r : List D) : dIx (.tup (a :: b :: r)) (.int 1) = .ok b := by
  have : (1 : Int) < r.length + 1 + 1 := by omega
  simp [dIx, atI, ixN, this]
theorem ixN_of {n : Nat} {i : Int} (h : -(n : Int) ≤ i) (k : i < n) : ∃ j : Nat, ixN n i = some j ∧ j < n := by
  unfold ixN
  by_cases c : 0 ≤ i
  · exact ⟨i.toNat, by rw [if_pos c, if_pos k], by omega⟩
  · exact ⟨(i + n).toNat, by rw [if_neg c, if_pos h], by omega⟩
mutual
theorem eqv_self : ∀ (d : D) (n : Nat), d.pl n = true → PyData.eqv d.py d.py = true
  | .non, _, _ => rfl
  | .bl b, _, _ => by simp [D.py, PyData.eqv]
  | .int i, _, _ => by simp [D.py, PyData.eqv]
  | .str x, _, _ => by simp [D.py, PyData.eqv]
  | .obj _, _, h => by simp [D.pl] at h
  | .err _ _, _, h => by simp [D.pl] at h
  | .exn _ _ _, _, h => by simp [D.pl] at h
  | .dct _ _, _, h => by simp [D.pl] at h
  | .con xs, 0, h => by simp [D.pl] at h
  | .con xs, n + 1, h => by
    simp [D.py, PyData.eqv]
    exact eqvs_self xs n (by simpa [D.pl] using h)
  | .tup xs, 0, h => by simp [D.pl] at h
  | .lst xs, 0, h => by simp [D.pl] at h
  | .tup xs, n + 1, h => by
    simp [D.py, PyData.eqv]
    exact eqvs_self xs n (by simpa [D.pl] using h)
  | .lst xs, n + 1, h => by
    simp [D.py, PyData.eqv]
    exact eqvs_self xs n (by simpa [D.pl] using h)
theorem eqvs_self : ∀ (ds : List D) (n : Nat), D.pls ds n = true → PyData.eqvAll (D.pys ds) (D.pys ds) = true
  | [], _, _ => rfl
  | d :: r, n, h => by
    have h' : d.pl n = true ∧ D.pls r n = true := by simpa [D.pls] using h
    simp [D.pys, PyData.eqvAll]
    exact ⟨eqv_self d n h'.1, eqvs_self r n h'.2⟩
end
theorem dNe_self {d : D} (h : d.pl 60 = true) : dNe d d = .ok (.bl false) := by
  cases d with
  | str x => simp [dNe]
  | _ => simp only [dNe]; rw [if_pos ⟨h, h⟩, D.beq, eqv_self _ 60 h]; rfl
theorem pls_all {n : Nat} : ∀ {ds : List D}, (∀ d ∈ ds, d.pl n = true) → D.pls ds n = true
  | [], _ => rfl
  | d :: r, h => by
    rw [D.pls, h d List.mem_cons_self, pls_all fun x hx => h x (List.mem_cons_of_mem _ hx)]
    rfl
/-! ### sizes -/
/-- an integer of at most so many bits -/
def Sm (n : Nat) (i : Int) : Prop := i.natAbs < 2 ^ n
theorem Sm.mono {n m : Nat} {i : Int} (h : Sm n i) (k : n ≤ m) : Sm m i := Nat.lt_of_lt_of_le h (Nat.pow_le_pow_right (by decide) k)
theorem Sm.le {n : Nat} {i j : Int} (h : Sm n i) (k : j.natAbs ≤ i.natAbs) : Sm n j := Nat.lt_of_le_of_lt k h
theorem Sm.lg {n : Nat} {i : Int} (h : Sm n i) (k : n ≤ 8999) : i.natAbs.log2 < 9000 := by
  by_cases z : i.natAbs = 0
  · rw [z]; decide
  · rw [Nat.log2_lt z]
    exact Nat.lt_of_lt_of_le h (Nat.pow_le_pow_right (by decide) (by omega))
theorem dDiv_int {i j : Int} (h : j ≠ 0) (k : j.natAbs.log2 < 9000) : dDiv (.int i) (.int j) = .ok (.int (i.fdiv j)) := if_pos ⟨h, k⟩
@[simp] theorem dDiv_lit (i j : Int) (h : 0 < j) (k : j < 18446744073709551616) : dDiv (.int i) (.int j) = .ok (.int (i / j)) := by
  rw [dDiv_int (by omega) (Sm.lg (n := 64) (by unfold Sm; omega) (by decide)), Int.fdiv_eq_ediv_of_nonneg _ (by omega)]
@[simp high] theorem dMod_lit (i j : Int) (h : 0 < j) : dMod (.int i) (.int j) = .ok (.int (i % j)) := by
  rw [dMod_int, if_pos (by omega), Int.fmod_eq_emod_of_nonneg _ (by omega)]
theorem dPow_of {i j : Int} (h : 0 ≤ j ∧ (intBits i : Int) * j ≤ 2 ^ 27) : dPow (.int i) (.int j) = .ok (.int (i ^ j.toNat)) := if_pos h
@[simp] theorem pow_10_60 : dPow (.int 10) (.int 60) = .ok (.int (10 ^ 60)) := dPow_of (by decide +kernel)
@[simp] theorem pow_10_18 : dPow (.int 10) (.int 18) = .ok (.int (10 ^ 18)) := dPow_of (by decide +kernel)
@[simp] theorem pow_10_9 : dPow (.int 10) (.int 9) = .ok (.int (10 ^ 9)) := dPow_of (by decide +kernel)
@[simp] theorem pow_10_10 : dPow (.int 10) (.int 10) = .ok (.int (10 ^ 10)) := dPow_of (by decide +kernel)
/-! ### loops -/
@[simp] theorem isInt_bl (b : Bool) : isInt (.bl b) = .ok (.bl true) := Eq.trans rfl rfl
@[simp] theorem isInt_tup (ds : List D) : isInt (.tup ds) = .ok (.bl false) := Eq.trans rfl rfl
@[simp] theorem isInt_str (x : Str) : isInt (.str x) = .ok (.bl false) := Eq.trans rfl rfl
@[simp] theorem isInt_lst (ds : List D) : isInt (.lst ds) = .ok (.bl false) := Eq.trans rfl rfl
@[simp] theorem isInt_non  : isInt .non = .ok (.bl false) := Eq.trans rfl rfl
@[simp] theorem isBool_bl (b : Bool) : isBool (.bl b) = .ok (.bl true) := Eq.trans rfl rfl
@[simp] theorem isBool_tup (ds : List D) : isBool (.tup ds) = .ok (.bl false) := Eq.trans rfl rfl
@[simp] theorem isBool_str (x : Str) : isBool (.str x) = .ok (.bl false) := Eq.trans rfl rfl
@[simp] theorem isBool_lst (ds : List D) : isBool (.lst ds) = .ok (.bl false) := Eq.trans rfl rfl
@[simp] theorem isBool_non  : isBool .non = .ok (.bl false) := Eq.trans rfl rfl
@[simp] theorem isTup_int (i : Int) : isTup (.int i) = .ok (.bl false) := Eq.trans rfl rfl
@[simp] theorem isTup_bl (b : Bool) : isTup (.bl b) = .ok (.bl false) := Eq.trans rfl rfl
@[simp] theorem isTup_str (x : Str) : isTup (.str x) = .ok (.bl false) := Eq.trans rfl rfl
@[simp] theorem isTup_lst (ds : List D) : isTup (.lst ds) = .ok (.bl false) := Eq.trans rfl rfl
@[simp] theorem isTup_non  : isTup .non = .ok (.bl false) := Eq.trans rfl rfl
@[simp] theorem isStr_int (i : Int) : isStr (.int i) = .ok (.bl false) := Eq.trans rfl rfl
@[simp] theorem isStr_bl (b : Bool) : isStr (.bl b) = .ok (.bl false) := Eq.trans rfl rfl
@[simp] theorem isStr_tup (ds : List D) : isStr (.tup ds) = .ok (.bl false) := Eq.trans rfl rfl
@[simp] theorem isStr_str (x : Str) : isStr (.str x) = .ok (.bl true) := Eq.trans rfl rfl
@[simp] theorem isStr_lst (ds : List D) : isStr (.lst ds) = .ok (.bl false) := Eq.trans rfl rfl
@[simp] theorem isStr_non  : isStr .non = .ok (.bl false) := Eq.trans rfl rfl
@[simp] theorem isList_int (i : Int) : isList (.int i) = .ok (.bl false) := Eq.trans rfl rfl
@[simp] theorem isList_bl (b : Bool) : isList (.bl b) = .ok (.bl false) := Eq.trans rfl rfl
@[simp] theorem isList_tup (ds : List D) : isList (.tup ds) = .ok (.bl false) := Eq.trans rfl rfl
@[simp] theorem isList_str (x : Str) : isList (.str x) = .ok (.bl false) := Eq.trans rfl rfl
@[simp] theorem isList_lst (ds : List D) : isList (.lst ds) = .ok (.bl true) := Eq.trans rfl rfl
@[simp] theorem isList_non  : isList .non = .ok (.bl false) := Eq.trans rfl rfl
@[simp] theorem dIx_tup2 (a b c : D) (r : List D) : dIx (.tup (a :: b :: c :: r)) (.int 2) = .ok c := by
  have : (2 : Int) < r.length + 1 + 1 + 1 := by omega
  simp [dIx, atI, ixN, this]
@[simp] theorem dIx_tup3 (a b c d : D) (r : List D) : dIx (.tup (a :: b :: c :: d :: r)) (.int 3) = .ok d := by
  have : (3 : Int) < r.length + 1 + 1 + 1 + 1 := by omega
  simp [dIx, atI, ixN, this]
@[simp] theorem dEq_str (a b : Str) : dEq (.str a) (.str b) = .ok (.bl (decide (a = b))) := Eq.trans rfl rfl
@[simp] theorem dNe_str (a b : Str) : dNe (.str a) (.str b) = .ok (.bl (!decide (a = b))) := Eq.trans rfl rfl
@[simp] theorem dEq_bl (a b : Bool) : dEq (.bl a) (.bl b) = .ok (.bl (decide (a = b))) := by
  simp [dEq, D.pl, D.beq, D.py, PyData.eqv]
  cases a <;> cases b <;> rfl
@[simp] theorem dNe_bl (a b : Bool) : dNe (.bl a) (.bl b) = .ok (.bl (!decide (a = b))) := by
  simp [dNe, D.pl, D.beq, D.py, PyData.eqv]
  cases a <;> cases b <;> rfl
@[simp] theorem truth_bl (b : Bool) : D.truth (.bl b) = .ok b := Eq.trans rfl rfl
@[simp] theorem truth_int (i : Int) : D.truth (.int i) = .ok (decide (i ≠ 0)) := by
  show Res.ok (i != 0) = _
  congr 1
  exact Bool.eq_iff_iff.mpr (by simp)
end DL

namespace DL
open PySem PySem.Spec PyProof.Rows L2
open PySem.Builtin.Int (intBits)
/-! ### Euclid's loop over slots 0, 1, 2 -/
/-- the share a rational number is -/
def shr (x : Rat) : D := .tup [.int x.num, .int x.den]
end DL

namespace DL
open PySem PySem.Spec PyProof.Rows L2
open PySem.Builtin.Int (intBits)
/-! ### shares -/
@[simp] theorem shr_0 (x : Rat) : dIx (shr x) (.int 0) = .ok (.int x.num) := by simp [shr]
@[simp] theorem shr_1 (x : Rat) : dIx (shr x) (.int 1) = .ok (.int x.den) := by simp [shr]
/-- sizes of a share -/
def SmR (n m : Nat) (x : Rat) : Prop := Sm n x.num ∧ Sm m (x.den : Int)
theorem SmR.mono {n m n' m' : Nat} {x : Rat} (h : SmR n m x) (a : n ≤ n') (b : m ≤ m') : SmR n' m' x := ⟨h.1.mono a, h.2.mono b⟩
end DL

namespace DL
open PySem PySem.Spec PyProof.Rows L2
open PySem.Builtin.Int (intBits)
/-! ### powers of a pair by squarings -/
def pr (a b : Int) : D := .tup [.int a, .int b]
@[simp] theorem pr_0 (a b : Int) : dIx (pr a b) (.int 0) = .ok (.int a) := by simp [pr]
@[simp] theorem pr_1 (a b : Int) : dIx (pr a b) (.int 1) = .ok (.int b) := by simp [pr]
end DL

/-! spreads, plainly -/
namespace DL
open PySem PySem.Spec PyProof.Rows L2
open PySem.Builtin.Int (intBits)
@[simp] theorem dIxA_lst (xs : List D) (i : D) : dIxA (.lst xs) i = dIx (.lst xs) i := rfl
@[simp] theorem dIxA_tup (xs : List D) (i : D) : dIxA (.tup xs) i = dIx (.tup xs) i := rfl
@[simp] theorem dIxA_con (xs : List D) (i : D) : dIxA (.con xs) i = dIx (.con xs) i := rfl
@[simp] theorem dIxA_dct (t : Bool) (kvs : List (D × D)) (i : D) : dIxA (.dct t kvs) i = dAt (.dct t kvs) i := rfl
/-- answers: numbers only -/
def ans (k : List Int) : D := .tup (k.map D.int)
theorem ints_inj : ∀ {a b : List Int}, a.map D.int = b.map D.int → a = b
  | [], [], _ => rfl
  | [], _ :: _, h => by cases h
  | _ :: _, [], h => by cases h
  | x :: a, y :: b, h => by
    rw [List.map_cons, List.map_cons, List.cons.injEq] at h
    cases h.1
    rw [ints_inj h.2]
theorem ans_inj {a b : List Int} (h : ans a = ans b) : a = b := ints_inj (by unfold ans at h; injection h)
@[simp] theorem ans_key (k : List Int) : D.keyOk true (ans k) = true := by
  simp [ans, D.keyOk, D.isKey]
def getR (m : List (List Int × Rat)) (k : List Int) : Option Rat := (m.find? fun p => decide (p.1 = k)).map (·.2)
def putR (m : List (List Int × Rat)) (k : List Int) (x : Rat) : List (List Int × Rat) := if (m.any fun p => decide (p.1 = k)) = true then m.map (fun p => if p.1 = k then (p.1, x) else p) else m ++ [(k, x)]
/-- one more pair -/
def stepR (m : List (List Int × Rat)) (p : List Int × Rat) : List (List Int × Rat) := putR m p.1 ((getR m p.1).getD 0 + p.2)
def totR (ps : List (List Int × Rat)) (k : List Int) : Rat := ps.foldl (fun t p => if p.1 = k then t + p.2 else t) 0
theorem any_key {m : List (List Int × Rat)} {k : List Int} : (m.any fun p => decide (p.1 = k)) = true ↔ k ∈ m.map (·.1) := by
  rw [List.any_eq_true, List.mem_map]
  constructor
  · rintro ⟨p, h, e⟩; exact ⟨p, h, by simpa using e⟩
  · rintro ⟨p, h, e⟩; exact ⟨p, h, by simpa using e⟩
theorem put_keys (m : List (List Int × Rat)) (k : List Int) (x : Rat) : (putR m k x).map (·.1) = if k ∈ m.map (·.1) then m.map (·.1) else m.map (·.1) ++ [k] := by
  unfold putR
  by_cases h : k ∈ m.map (·.1)
  · rw [if_pos (any_key.mpr h), if_pos h, List.map_map]
    apply List.map_congr_left
    intro p _
    show (if p.1 = k then (p.1, x) else p).1 = p.1
    split <;> rfl
  · rw [if_neg (fun z => h (any_key.mp z)), if_neg h, List.map_append]; rfl
theorem get_some {m : List (List Int × Rat)} {k : List Int} : (getR m k).isSome = true ↔ k ∈ m.map (·.1) := by
  unfold getR
  rw [Option.isSome_map, List.find?_isSome, List.mem_map]
  constructor
  · rintro ⟨p, h, e⟩; exact ⟨p, h, by simpa using e⟩
  · rintro ⟨p, h, e⟩; exact ⟨p, h, by simpa using e⟩
theorem get_none {m : List (List Int × Rat)} {k : List Int} (h : k ∉ m.map (·.1)) : getR m k = none := by
  cases e : getR m k with
  | none => rfl
  | some x => exact absurd (get_some.mp (by rw [e]; rfl)) h
theorem put_get_self (m : List (List Int × Rat)) (k : List Int) (x : Rat) : getR (putR m k x) k = some x := by
  unfold putR
  split
  · rename_i h
    induction m with
    | nil => simp at h
    | cons p m ih =>
      unfold getR
      rw [List.map_cons, List.find?_cons]
      by_cases hp : p.1 = k
      · simp [hp]
      · simp only [if_neg hp, decide_eq_false hp]
        have h' : (m.any fun p => decide (p.1 = k)) = true := by simpa [hp] using h
        exact ih h'
  · rename_i h
    unfold getR
    rw [List.find?_append]
    have : m.find? (fun p => decide (p.1 = k)) = none := by
      cases e : m.find? (fun p => decide (p.1 = k)) with
      | none => rfl
      | some p =>
        exfalso
        apply h
        rw [List.any_eq_true]
        exact ⟨p, List.mem_of_find?_eq_some e, List.find?_some (p := fun p : List Int × Rat => decide (p.1 = k)) e⟩
    rw [this]
    simp
theorem put_get_ne {m : List (List Int × Rat)} {k j : List Int} (x : Rat) (h : j ≠ k) : getR (putR m k x) j = getR m j := by
  unfold putR
  split
  · induction m with
    | nil => rfl
    | cons p m ih =>
      unfold getR at *
      rw [List.map_cons, List.find?_cons, List.find?_cons]
      by_cases hp : p.1 = k
      · have hj : p.1 ≠ j := fun z => h (by rw [← z, hp])
        simp only [if_pos hp, decide_eq_false hj]
        rename_i hh
        by_cases h3 : (m.any fun p => decide (p.1 = k)) = true
        · exact ih h3
        · have : m.map (fun p => if p.1 = k then (p.1, x) else p) = m := by
            conv => rhs; rw [← List.map_id m]
            apply List.map_congr_left
            intro q hq
            rw [if_neg]
            · rfl
            · intro z
              apply h3
              rw [List.any_eq_true]
              exact ⟨q, hq, by simpa using z⟩
          rw [this]
      · simp only [if_neg hp]
        by_cases hj : p.1 = j
        · simp [hj]
        · simp only [decide_eq_false hj]
          rename_i hh
          exact ih (by simpa [hp] using hh)
  · unfold getR
    rw [List.find?_append]
    cases m.find? (fun p => decide (p.1 = j)) with
    | some p => rfl
    | none => simp [Ne.symm h]
/-- what the sums are after so many pairs -/
structure SumsOf (m ps : List (List Int × Rat)) : Prop where
  nd : (m.map (·.1)).Nodup
  ks : ∀ k, k ∈ m.map (·.1) ↔ k ∈ ps.map (·.1)
  gt : ∀ k, k ∈ ps.map (·.1) → getR m k = some (totR ps k)
  ln : m.length ≤ ps.length
theorem tot_snoc (ps : List (List Int × Rat)) (p : List Int × Rat) (k : List Int) : totR (ps ++ [p]) k = if p.1 = k then totR ps k + p.2 else totR ps k := by
  unfold totR
  rw [List.foldl_append]
  rfl
theorem tot_none {ps : List (List Int × Rat)} {k : List Int} (h : k ∉ ps.map (·.1)) : totR ps k = 0 := by
  unfold totR
  have gen : ∀ (ps : List (List Int × Rat)) (t : Rat), k ∉ ps.map (·.1) → ps.foldl (fun t p => if p.1 = k then t + p.2 else t) t = t := by
    intro ps
    induction ps with
    | nil => intro t _; rfl
    | cons p ps ih =>
      intro t h
      rw [List.map_cons, List.mem_cons] at h
      rw [List.foldl_cons, if_neg (fun z => h (.inl z.symm))]
      exact ih t fun z => h (.inr z)
  exact gen ps 0 h
theorem SumsOf.step {m ps : List (List Int × Rat)} (S : SumsOf m ps) (p : List Int × Rat) : SumsOf (stepR m p) (ps ++ [p]) := by
  have hk := put_keys m p.1 ((getR m p.1).getD 0 + p.2)
  have ht : (getR m p.1).getD 0 = totR ps p.1 := by
    by_cases h : p.1 ∈ ps.map (·.1)
    · rw [S.gt _ h]; rfl
    · rw [get_none (fun z => h ((S.ks _).mp z)), tot_none h]; rfl
  refine ⟨?_, fun k => ?_, fun k h => ?_, ?_⟩
  · unfold stepR
    rw [hk]
    split
    · exact S.nd
    · rename_i h
      rw [List.nodup_append]
      refine ⟨S.nd, by simp, ?_⟩
      intro a ha b hb
      rw [List.mem_singleton] at hb
      subst hb
      intro e
      subst e
      exact h ha
  · unfold stepR
    rw [hk, List.map_append, List.mem_append, ← S.ks k]
    split
    · rename_i h
      constructor
      · exact .inl
      · rintro (z | z)
        · exact z
        · rw [show k = p.1 by simpa using z]; exact h
    · rw [List.mem_append]; rfl
  · rw [tot_snoc]
    unfold stepR
    by_cases e : p.1 = k
    · subst e
      rw [put_get_self, ht, if_pos rfl]
    · rw [put_get_ne _ (Ne.symm e), if_neg e]
      rw [List.map_append, List.mem_append] at h
      rcases h with z | z
      · exact S.gt _ z
      · exact absurd (by simpa using z : k = p.1).symm e
  · have := congrArg List.length hk
    rw [List.length_map] at this
    unfold stepR
    rw [this, List.length_append]
    have l := S.ln
    split
    · rw [List.length_map]; simp; omega
    · rw [List.length_append, List.length_map]; simp; omega
theorem SumsOf.nil : SumsOf [] [] := ⟨List.nodup_nil, fun k => Iff.rfl, fun k h => absurd h List.not_mem_nil, Nat.le_refl _⟩
theorem SumsOf.all : ∀ (qs : List (List Int × Rat)) {m ps : List (List Int × Rat)}, SumsOf m ps → SumsOf (qs.foldl stepR m) (ps ++ qs)
  | [], m, ps, S => by rw [List.append_nil]; exact S
  | q :: qs, m, ps, S => by
    have := SumsOf.all qs (S.step q)
    rw [List.append_assoc] at this
    exact this
/-! ### order of answers -/
theorem ints_pl (n : Nat) (k : List Int) : D.pls (k.map D.int) n = true := pls_all fun d hd => by
  obtain ⟨i, _, rfl⟩ := List.mem_map.mp hd
  rfl
theorem ans_pl (k : List Int) (n : Nat) : (ans k).pl (n + 1) = true := ints_pl n k
/-! ### comprehensions -/
/-! ### spreads -/
def spPairD (p : List Int × Rat) : D := .tup [ans p.1, shr p.2]
/-! ### dicts, step by step -/
@[simp] theorem ownD_app (i : Nat) (e : DL.Env) (k : Bool → List (D × D) → Out) : ownD i e k = (match e[i]? with | some (some (.dct t kvs, true)) => k t kvs | _ => .bad) := Eq.trans rfl rfl
@[simp] theorem sPutD_app (al : List Nat) (i : Nat) (fk fv : DL.Env → Res D) (e : DL.Env) : sPutD al i fk fv e = ownD i (fz al e) fun t kvs => sE al (fun e => (fv e).bind fun v => (fk e).bind fun k => .ok (k, v)) (fun kv e' =>
  if D.keyOk t kv.1 = true ∧ kvs.length < sizeLine then .nx (e'.set i (some (.dct t (dSet kvs kv.1 kv.2), true))) else .bad) e := Eq.trans rfl rfl
@[simp] theorem eGet2_app (fa fb fc : DL.Env → Res D) (e : DL.Env) : eGet2 fa fb fc e = (fa e).bind fun d => match d with
  | .dct t kvs => (fb e).bind fun k => (fc e).bind fun x => dGet2 (.dct t kvs) k x
  | _ => .bad := Eq.trans rfl rfl
@[simp] theorem eDNew_app (t : Bool) (e : DL.Env) : eDNew t e = .ok (.dct t []) := Eq.trans rfl rfl
/-! ### falling shares come to one -/
@[simp] theorem sPutL_app (al : List Nat) (i : Nat) (fk fv : DL.Env → Res D) (e : DL.Env) : sPutL al i fk fv e = ownL i (fz al e) fun xs => sE al (fun e => (fv e).bind fun v => (fk e).bind fun k => .ok (k, v)) (fun kv e' => match kv.1 with
  | .int k => match ixN xs.length k with
    | some j => .nx (e'.set i (some (.lst (xs.set j kv.2), true)))
    | none => .bad
  | _ => .bad) e := Eq.trans rfl rfl
@[simp] theorem bind_sp (ps : List Pat) (p : List Int × Rat) (e : DL.Env) : Pat.bind (.tp ps) (spPairD p) e = Pat.binds ps [ans p.1, shr p.2] e := Eq.trans rfl rfl
@[simp] theorem sp_0 (p : List Int × Rat) : dIx (spPairD p) (.int 0) = .ok (ans p.1) := dIx_tup0 _ _
@[simp] theorem sp_1 (p : List Int × Rat) : dIx (spPairD p) (.int 1) = .ok (shr p.2) := dIx_tup1 _ _ _
@[simp] theorem ans_0 (a : Int) (r : List Int) : dIx (ans (a :: r)) (.int 0) = .ok (.int a) := dIx_tup0 _ _
theorem ints_of : ∀ ns : List Int, D.ints (ns.map D.int) = some ns
  | [] => rfl
  | n :: r => by show (D.ints (r.map D.int)).map _ = _; rw [ints_of r]; rfl
@[simp] theorem dSum_ints (ns : List Int) : dSum (.lst (ns.map D.int)) = .ok (.int ns.sum) := by
  show (match D.ints (ns.map D.int) with | some ns => Res.ok (D.int ns.sum) | none => .bad) = _
  rw [ints_of]
/-- places and numbers -/
def natL (ws : List Nat) : List D := ws.map fun (w : Nat) => D.int (w : Int)
theorem natL_ints (ws : List Nat) : natL ws = (ws.map fun (w : Nat) => (w : Int)).map D.int := by
  unfold natL
  rw [List.map_map]; rfl
theorem nat_sum : ∀ ws : List Nat, (ws.map fun (w : Nat) => (w : Int)).sum = ((ws.sum : Nat) : Int)
  | [] => rfl
  | w :: r => by rw [List.map_cons, List.sum_cons, List.sum_cons, nat_sum r, Int.natCast_add]
@[simp] theorem dSum_nats (ws : List Nat) : dSum (.lst (natL ws)) = .ok (.int (ws.sum : Nat)) := by
  rw [natL_ints, dSum_ints, nat_sum]
end DL

/-! dicts of any keys, plainly -/
namespace DL
open PySem PySem.Spec PyProof.Rows L2
open PySem.Builtin.Int (intBits)
section
variable {α β : Type} [DecidableEq α] {f : α → D} {g : β → D}
def getG (m : List (α × β)) (k : α) : Option β := (m.find? fun p => decide (p.1 = k)).map (·.2)
def putG (m : List (α × β)) (k : α) (x : β) : List (α × β) := if (m.any fun p => decide (p.1 = k)) = true then m.map (fun p => if p.1 = k then (p.1, x) else p) else m ++ [(k, x)]
theorem any_keyG {m : List (α × β)} {k : α} : (m.any fun p => decide (p.1 = k)) = true ↔ k ∈ m.map (·.1) := by
  rw [List.any_eq_true, List.mem_map]
  constructor
  · rintro ⟨p, h, e⟩; exact ⟨p, h, by simpa using e⟩
  · rintro ⟨p, h, e⟩; exact ⟨p, h, by simpa using e⟩
theorem put_keysG (m : List (α × β)) (k : α) (x : β) : (putG m k x).map (·.1) = if k ∈ m.map (·.1) then m.map (·.1) else m.map (·.1) ++ [k] := by
  unfold putG
  by_cases h : k ∈ m.map (·.1)
  · rw [if_pos (any_keyG.mpr h), if_pos h, List.map_map]
    apply List.map_congr_left
    intro p _
    show (if p.1 = k then (p.1, x) else p).1 = p.1
    split <;> rfl
  · rw [if_neg (fun z => h (any_keyG.mp z)), if_neg h, List.map_append]; rfl
theorem put_get_selfG (m : List (α × β)) (k : α) (x : β) : getG (putG m k x) k = some x := by
  unfold putG
  split
  · rename_i h
    induction m with
    | nil => simp at h
    | cons p m ih =>
      unfold getG
      rw [List.map_cons, List.find?_cons]
      by_cases hp : p.1 = k
      · simp [hp]
      · simp only [if_neg hp, decide_eq_false hp]
        have h' : (m.any fun p => decide (p.1 = k)) = true := by simpa [hp] using h
        exact ih h'
  · rename_i h
    unfold getG
    rw [List.find?_append]
    have : m.find? (fun p => decide (p.1 = k)) = none := by
      cases e : m.find? (fun p => decide (p.1 = k)) with
      | none => rfl
      | some p =>
        exfalso
        apply h
        rw [List.any_eq_true]
        exact ⟨p, List.mem_of_find?_eq_some e, List.find?_some (p := fun p : α × β => decide (p.1 = k)) e⟩
    rw [this]
    simp
theorem put_get_neG {m : List (α × β)} {k j : α} (x : β) (h : j ≠ k) : getG (putG m k x) j = getG m j := by
  unfold putG
  split
  · induction m with
    | nil => rfl
    | cons p m ih =>
      unfold getG at *
      rw [List.map_cons, List.find?_cons, List.find?_cons]
      by_cases hp : p.1 = k
      · have hj : p.1 ≠ j := fun z => h (by rw [← z, hp])
        simp only [if_pos hp, decide_eq_false hj]
        rename_i hh
        by_cases h3 : (m.any fun p => decide (p.1 = k)) = true
        · exact ih h3
        · have : m.map (fun p => if p.1 = k then (p.1, x) else p) = m := by
            conv => rhs; rw [← List.map_id m]
            apply List.map_congr_left
            intro q hq
            rw [if_neg]
            · rfl
            · intro z
              apply h3
              rw [List.any_eq_true]
              exact ⟨q, hq, by simpa using z⟩
          rw [this]
      · simp only [if_neg hp]
        by_cases hj : p.1 = j
        · simp [hj]
        · simp only [decide_eq_false hj]
          rename_i hh
          exact ih (by simpa [hp] using hh)
  · unfold getG
    rw [List.find?_append]
    cases m.find? (fun p => decide (p.1 = j)) with
    | some p => rfl
    | none => simp [Ne.symm h]

theorem putG_len (m : List (α × β)) (k : α) (x : β) : (putG m k x).length ≤ m.length + 1 := by
  have e := congrArg List.length (put_keysG m k x)
  rw [List.length_map] at e
  rw [e]
  split
  · rw [List.length_map]; omega
  · rw [List.length_append, List.length_map]; exact Nat.le_refl _
end
/-- so many times each -/
def bumpG {α : Type} [DecidableEq α] (m : List (α × Nat)) (k : α) : List (α × Nat) := putG m k ((getG m k).getD 0 + 1)
def timesG {α : Type} [DecidableEq α] (k : α) (l : List α) : Nat := (l.filter fun x => decide (x = k)).length
structure CountsOf {α : Type} [DecidableEq α] (m : List (α × Nat)) (l : List α) : Prop where
  nd : (m.map (·.1)).Nodup
  ks : ∀ k, k ∈ m.map (·.1) ↔ k ∈ l
  gt : ∀ k, (getG m k).getD 0 = timesG k l
  sm : ∀ k, k ∈ l → getG m k = some (timesG k l)
  ln : m.length ≤ l.length
theorem CountsOf.nil {α : Type} [DecidableEq α] : CountsOf ([] : List (α × Nat)) [] := ⟨List.nodup_nil, fun k => Iff.rfl, fun k => rfl, fun k h => absurd h List.not_mem_nil, Nat.le_refl _⟩
theorem timesG_snoc {α : Type} [DecidableEq α] (k x : α) (l : List α) : timesG k (l ++ [x]) = timesG k l + if x = k then 1 else 0 := by
  unfold timesG
  rw [List.filter_append, List.length_append]
  by_cases h : x = k
  · simp [h]
  · simp [h]
theorem CountsOf.step {α : Type} [DecidableEq α] {m : List (α × Nat)} {l : List α} (S : CountsOf m l) (x : α) : CountsOf (bumpG m x) (l ++ [x]) := by
  have hk := put_keysG m x ((getG m x).getD 0 + 1)
  have g1 : ∀ k, getG (bumpG m x) k = if x = k then some (timesG k l + 1) else getG m k := fun k => by
    unfold bumpG
    by_cases e : x = k
    · subst e
      rw [put_get_selfG, if_pos rfl, S.gt]
    · rw [put_get_neG _ (Ne.symm e), if_neg e]
  refine ⟨?_, fun k => ?_, fun k => ?_, fun k h => ?_, ?_⟩
  · unfold bumpG
    rw [hk]
    split
    · exact S.nd
    · rename_i h
      rw [List.nodup_append]
      refine ⟨S.nd, by simp, ?_⟩
      intro a ha b hb
      rw [List.mem_singleton] at hb
      subst hb
      intro e
      subst e
      exact h ha
  · unfold bumpG
    rw [hk, List.mem_append, List.mem_singleton, ← S.ks k]
    split
    · rename_i h
      exact ⟨.inl, fun z => z.elim id fun e => e ▸ h⟩
    · rw [List.mem_append, List.mem_singleton]
  · rw [g1, timesG_snoc]
    split
    · rfl
    · rw [S.gt]; rfl
  · rw [g1, timesG_snoc]
    split
    · rfl
    · rename_i e
      rw [List.mem_append, List.mem_singleton] at h
      rw [S.sm k (h.resolve_right fun z => e z.symm)]
      rfl
  · have := putG_len m x ((getG m x).getD 0 + 1)
    have l' := S.ln
    rw [List.length_append]
    show (putG m x _).length ≤ l.length + 1
    omega
/-! ### sorted numbers -/
end DL

/-! rows of numbers, plainly -/
namespace DL
open PySem PySem.Spec PyProof.Rows L2
open PySem.Builtin.Int (intBits)
theorem beq_ans (a b : List Int) : D.beq (ans a) (ans b) = decide (a = b) := by
  have gen : ∀ (a b : List Int), PyData.eqvAll (D.pys (a.map D.int)) (D.pys (b.map D.int)) = decide (a = b) := by
    intro a
    induction a with
    | nil => intro b; cases b <;> simp [D.pys, PyData.eqvAll]
    | cons x a ih =>
      intro b
      cases b with
      | nil => simp [D.pys, PyData.eqvAll]
      | cons y b =>
        simp only [List.map_cons, D.pys, D.py, PyData.eqvAll, ih b]
        show (PyData.eqv (.int x) (.int y) && decide (a = b)) = _
        have e : PyData.eqv (.int x) (.int y) = decide (x = y) := by
          simp [PyData.eqv]
          exact Bool.eq_iff_iff.mpr (by simp)
        rw [e]
        by_cases h1 : x = y <;> by_cases h2 : a = b <;> simp [h1, h2]
  show PyData.eqv (.tuple (D.pys (a.map D.int))) (.tuple (D.pys (b.map D.int))) = _
  rw [PyData.eqv]
  exact gen a b
/-! ### how many stand in the one and not in the other -/
section
variable {α : Type} [DecidableEq α]
end
end DL

/-! rows of numbers, sorted -/
namespace DL
open PySem PySem.Spec PyProof.Rows L2
end DL

/-! sorted(set(t)), t a tuple of rows of numbers with fewer than 64 unlike ones -/
namespace DL
open PySem PySem.Spec PyProof.Rows L2
section
variable {P : Program} {w : World} {A : Around} {E : Value → Shared → Prop} {s : Shared} {a : Addr} {L : List (Addr × List Int)} {es : Array (Int × Value)} {ep : Nat} {t : SetTable}
set_option maxRecDepth 100000 in
set_option maxHeartbeats 3200000 in
end
end DL

namespace DL
open PySem PySem.Spec PyProof.Rows L2
/-! ### the rule -/
def D.row : D → Option (List Int)
  | .tup xs => D.ints xs
  | _ => none
section
variable {X : Cx} {W : WX} {A : Nat → Prop} {a : Expr} {p p2 q pos : Pos}
end
end DL

/-! tuples put together, one of them plain; sorted(set(t)) of plain tuples -/
namespace DL
open PySem PySem.Spec PyProof.Rows L2
section
variable {X : Cx} {W : WX} {A : Nat → Prop}
variable {a : Expr} {p p2 q pos : Pos}
/-! sorted(x), x a plain tuple, too -/
end
end DL

/-! errors with fields: caught, looked at -/
namespace EXD
open PySem PySem.Spec PySem.Calls PyProof.Rows PySem.W
section
variable {prog : Program} {w : World} {A : Around} {E : Value → Shared → Prop} {K : Frag} {x D : Addr} {ox : Obj}
theorem foundD {C : Addr} {name : Str} {a g : Value} {od : Option Obj} (hc : (clsIn K C).isSome = true) (ha : findIn K (.ref C) name = some (some a)) (hg : specialIn K a "__get__" = some (some g)) (ht : takesIn K a = some true) : findObj K C od name = some (.bind g a) := by
  obtain ⟨cd, e⟩ := Option.isSome_iff_exists.mp hc
  unfold findObj
  rw [e, Option.bind_some, ha, Option.bind_some]
  simp [hg, ht]
theorem dict_cls {K : Frag} {D : Addr} (h : hasDictIn K D = true) : (clsIn K D).isSome = true := by
  obtain ⟨cd, e, _⟩ := any_some h
  rw [e]; rfl
/-- x.__class__, x an exception with or without a dict of its own -/
theorem askedD {Q : Option Value → Shared → Prop} {od : Option Obj} {s : Shared} (T : L2.ExcC K D) (X : K.In s.heap) (I : InstAt s.heap x ox D od) (h : Q (some (.ref D)) { s with toks := s.toks + 1 }) :
    wpAny (model prog w) A (getAttr? (.ref x) "__class__") Q E s := by
  have found := foundD (od := od) (dict_cls T.hd) T.ha T.hn T.ht
  obtain ⟨hp, g, dr, tk, os⟩ := s
  have ty := I.type (M := model prog w)
  have p1 := looks_findIn (M := model prog w) X T.hg
  have p2 := looks_findIn (M := model prog w) X T.hk
  have p3 := looks_find (M := model prog w) X I found
  have isx : Looks (model prog w) hp (isInstance (.ref x) (.type "BaseException")) true := ty.andThen (looks_subIn X T.hs)
  have e0 : (false && onTheHeap (Value.builtin "BaseException.__getattribute__")) = false := rfl
  have e1 : (onTheHeap (Value.ref D) && Value.builtin "BaseException.__getattribute__" == Value.builtin "object.__getattribute__") = false := by
    rw [show (Value.builtin "BaseException.__getattribute__" == Value.builtin "object.__getattribute__") = false from by decide +kernel]; rfl
  unfold getAttr? getAttrBy? getAttrBy
  refine wpAny_bind (wpAny_mkText (wpAny_bind (wpAny_attempt (wpAny_holding (wpAny_bind (ty.at (wpAny_bind (p1.at ?_))))))))
  show wpAny _ _ (if (onTheHeap (Value.ref D) && Value.builtin "BaseException.__getattribute__" == Value.builtin "object.__getattribute__") = true then _ else _) _ _ _
  rw [e1, if_neg Bool.false_ne_true]
  unfold getAttrByItsOwn hookBefore
  refine wpAny_bind ?_
  rw [if_pos (show onTheHeap (Value.ref D) = true from rfl)]
  refine p2.at (wpAny_bind (wpAny_attempt (wpAny_holding ?_)))
  unfold callGetattribute
  rw [e0, if_neg Bool.false_ne_true]
  unfold boundAndCalled
  rw [PySem.F.excAttr_ValueError.ga.bind (.ref x)]
  refine wpAny_bind (wpAny_pure ?_)
  show wpAny _ _ (call (.builtin "BaseException.__getattribute__") [.ref x, .str "__class__" tk]) _ _ _
  refine wpAny_call (codeAny_call_builtin PySem.F.excAttr_ValueError.ga.plain PySem.F.entry_bexc_ga ?_)
  refine @check_slot (model prog w) _ _ ⟨hp, g, dr, tk + 1, os⟩ "BaseException.__getattribute__" "BaseException" "__getattribute__" (.ref x) [.str "__class__" tk] [] _ (by decide +kernel) (by decide +kernel) isx (PySem.F.args_bexc_ga (.ref x) (.str "__class__" tk)) ?_
  unfold Builtin.«object.__getattribute__»
  refine wpAny_bind (wpAny_of_eq (a := ((Value.ref x : Value), [Value.str "__class__" tk])) (by first | rfl | (simp only [slotArgs]; rfl)) (wpAny_bind (wpAny_pure (wpAny_bind (ty.at (wpAny_bind (p3.at ?_)))))))
  show wpAny _ _ (holding [Value.builtin "object.__class__"] (call (.builtin "getset_descriptor.__get__") [.builtin "object.__class__", .ref x, .ref D]) >>= ret) _ _ _
  refine wpAny_bind (wpAny_holding (wpAny_call (class_get (s := ⟨hp, g, dr, tk + 1, os⟩) (ox := ox) (od := od) X I T.hm (wpAny_pure ?_))))
  show wpAny _ _ (handedOut (.ref D)) _ _ _
  rw [handedOut_of (v := .ref D) rfl]
  first
    | exact wpAny_pure (wpAny_pure h)
    | exact wpAny_pure h
    | exact wpAny_pure (wpAny_bind (wpAny_pure (wpAny_pure h)))
theorem kitD {od : Option Obj} (T : L2.ExcC K D) : KitX K (.ref x) (.ref D) (fun h => InstAt h x ox D od) where
  ty := fun _ _ _ I => I.type
  it := fun _ _ X _ => by
    obtain ⟨cd, e, _⟩ := any_some T.hd
    unfold clsIn at e
    split at e
    · rename_i c1 d1 k1 s1 ho
      exact fun A' Q' E' s' k q => by
        unfold isType loadHead
        exact wpAny_bind (wpAny_loadPart (k _ _ (X _ _ ho)) (wpAny_pure q))
    · cases e
  ne := fun h tp dd its n sl X htp => Bool.eq_false_iff.mpr fun q => by
    have e := Value.ref.inj (beq_iff_eq.mp q)
    subst e
    obtain ⟨cd, e, _⟩ := any_some T.hd
    unfold clsIn at e
    split at e
    · rename_i c1 d1 k1 s1 ho
      cases (X _ _ ho).symm.trans htp
    · cases e
  ca := fun X I k => askedD T X I k
end
end EXD
namespace L2
open PySem PySem.Spec PyProof.Rows
/-- the object at a, an instance of D, with its dict as it lies there -/
theorem inst_any {P : Program} {w : World} {H : Hp} {h : Heap} {a D : Addr} {oe : Obj} {d : Option Addr} (hok : HOk P w H h) (hget : h.get? a = some oe) (hz : Zc (.ref D) d oe) (hf : ∃ vs, oe.data = .fields vs)
    (hd : ∀ dd, d = some dd → ∃ ps o, H dd = some o ∧ DL.XdH ps dd o) : ∃ od, PySem.W.InstAt h a oe D od := by
  obtain ⟨vs, hv⟩ := hf
  cases d with
  | none =>
    refine ⟨none, hget, hz.1, by unfold PySem.W.notCls; rw [hv], ?_⟩
    rw [hz.2]; trivial
  | some dd =>
    obtain ⟨ps, o, e, x⟩ := hd dd rfl
    obtain ⟨mA, hns, _⟩ := x P w H h (hok dd _ e)
    obtain ⟨od, ho, _⟩ := lookIn_ns hns
    exact ⟨some od, hget, hz.1, by unfold PySem.W.notCls; rw [hv], by rw [hz.2]; exact ho⟩
/-- isinstance(x, c), x an error that is held as a value -/
def rIsV (K : PySem.W.Frag) : List V → Hp → VK → Prop := fun xs H Q => ∃ (a C : Addr) (d : Option Addr) (o : HO) (c : V) (cv : Value) (b : Bool), xs = [.ref a, c] ∧ H a = some o ∧ DL.ErrH C d a o ∧ ExcC K C ∧ (∀ u, RelV c u → u = cv) ∧ PySem.W.kitOne K (.ref C) cv = some b ∧ (∀ dd, d = some dd → ∃ ps o, H dd = some o ∧ DL.XdH ps dd o) ∧ Q (.bl b) H
theorem call_isV {X : Cx} : CallR X (.builtin "isinstance") (rIsV X.K) := by
  intro pins s σ H xs us Q I r h
  obtain ⟨a, C, d, o, c, cv, b, rfl, ha, hE, hC, hcv, e, hd, q⟩ := h
  obtain ⟨u1, u2, rfl, r1, r2⟩ := vals2 r
  cases (show u1 = Value.ref a from r1)
  have ec := hcv _ r2
  subst ec
  obtain ⟨oe, vs, hget, hz, hv⟩ := hE _ _ _ _ (I.hok a _ ha)
  obtain ⟨od, J⟩ := inst_any I.hok hget hz ⟨vs, hv⟩ hd
  exact PySem.W.kia_one (EXD.kitD hC) I.kIn J e (fun z => nomatch z) fun tk => ⟨.bl b, H, I.kept (t' := tk) fun _ _ z => z, rfl, q⟩
end L2
namespace DL
open PySem PySem.Spec PyProof.Rows L2
/-! ### tuples of the heap, known to all -/
def upT (H G : Hp) : Hp := fun b => match H b with
  | some (.tup vs) => some (.tup vs)
  | _ => G b
section
variable {K : PySem.W.Frag} {H G : Hp}
theorem upT_tup {b : Addr} {vs : List V} (h : H b = some (.tup vs)) : upT H G b = some (.tup vs) := by
  unfold upT; rw [h]
mutual
theorem Rep.upT : ∀ {d : D} {v : V}, d.tfl = true → Rep K H d v → Rep K (upT H G) d v
  | .non, _, _, e => e
  | .bl _, _, _, e => e
  | .int _, _, _, e => e
  | .str _, _, _, e => e
  | .tup ds, _, f, ⟨t, vs, e, s, r⟩ => ⟨t, vs, e, upT_tup s, RepL.upT (show D.tfls ds = true from f) r⟩
  | .obj _, _, f, _ => by cases f
  | .err _ _, _, f, _ => by cases f
  | .exn _ _ _, _, f, _ => by cases f
  | .con _, _, f, _ => by cases f
  | .lst _, _, f, _ => by cases f
  | .dct _ _, _, f, _ => by cases f
theorem RepL.upT : ∀ {ds : List D} {vs : List V}, D.tfls ds = true → RepL K H ds vs → RepL K (upT H G) ds vs
  | [], _, _, e => e
  | d :: r, _, f, ⟨v, w, e, x, y⟩ => ⟨v, w, e, Rep.upT (Bool.and_eq_true_iff.mp f).1 x, RepL.upT (Bool.and_eq_true_iff.mp f).2 y⟩
end
/-- fields that any may keep -/
def flat2 : List (D × D) → Bool
  | [] => true
  | (_, d) :: r => D.tfl d && flat2 r
theorem RepV.upT : ∀ {fs : List (D × D)} {vs : List V}, flat2 fs = true → RepV K H fs vs → RepV K (DL.upT H G) fs vs
  | [], _, _, e => e
  | (_, d) :: r, _, f, ⟨v, w, e, x, y⟩ => ⟨v, w, e, Rep.upT (Bool.and_eq_true_iff.mp f).1 x, RepV.upT (Bool.and_eq_true_iff.mp f).2 y⟩
end
/-! ### the suite's error, with its fields -/
def fldOf : List (D × D) → Str → Option D
  | [], _ => none
  | (.str m, d) :: r, n => if n = m then some d else fldOf r n
  | _ :: r, n => fldOf r n
theorem fld_at {K : PySem.W.Frag} {G : Hp} {n : Str} {d : D} : ∀ {fs : List (D × D)} {ps : List (Str × V)}, fs.map (·.1) = ps.map (fun p => D.str p.1) → RepV K G fs (ps.map (·.2)) → fldOf fs n = some d → ∃ v, ps.lookup n = some v ∧ Rep K G d v
  | [], _, _, _, h => by cases h
  | _ :: _, [], k, _, _ => by simp at k
  | (x, d0) :: r, (m, v0) :: ps, k, ⟨v, w, e, r1, r2⟩, h => by
    simp only [List.map_cons, List.cons.injEq] at k e
    obtain ⟨k1, k2⟩ := k
    obtain ⟨e1, e2⟩ := e
    subst k1 e1 e2
    dsimp only [fldOf] at h
    by_cases hn : n = m
    · rw [if_pos hn] at h
      cases h
      subst hn
      exact ⟨v0, by simp [List.lookup], r1⟩
    · rw [if_neg hn] at h
      obtain ⟨v, h1, h2⟩ := fld_at k2 r2 h
      refine ⟨v, ?_, h2⟩
      have hb : (n == m) = false := by simpa using hn
      simp [List.lookup, hb, h1]
section
variable {X : Cx} {W : WX} {A : Nat → Prop} {pos p p1 p2 p3 : Pos}
/-- which classes keep fields under this name -/
def FldTab (K : PySem.W.Frag) (mg : Str → Option Value) (n : Str) (t : String → Bool) : Prop := ∀ c cls, t c = true → mg (Str.ofString c) = some cls → ∃ C, cls = .ref C ∧ XfC K C ∧ PySem.W.findIn K (.ref C) n = some none
theorem FldTab.nil {K : PySem.W.Frag} {mg : Str → Option Value} {n : Str} : FldTab K mg n (fun _ => false) := fun c cls h _ => by cases h
theorem FldTab.cons {K : PySem.W.Frag} {mg : Str → Option Value} {n : Str} {x : String} {C : Addr} {f : String → Bool} (hm : mg (Str.ofString x) = some (.ref C)) (hx : XfC K C) (hn : PySem.W.findIn K (.ref C) n = some none) (t : FldTab K mg n f) : FldTab K mg n (fun s => if s = x then true else f s) := fun c cls h hcl => by
  dsimp only at h
  by_cases hk : c = x
  · subst hk
    rw [hm] at hcl
    cases hcl
    exact ⟨C, rfl, hx, hn⟩
  · rw [if_neg hk] at h
    exact t c cls h hcl
end
end DL

/-! errors with fields: made and raised -/
namespace L2
open PySem PySem.Spec PyProof.Rows
/-- what the written part says of the base of all errors -/
structure BasE (K : PySem.W.Frag) (B : Addr) : Prop where
  sp : PySem.W.specialIn K (.ref B) "__getattribute__" = some (some (.builtin "type.__getattribute__"))
  ty : PySem.W.typeIn K (.ref B) = some (.type "type")
  rd : PySem.W.readsIn K B (.type "type") = true
  fc : PySem.W.findCls K (.ref B) (.type "type") "__init__" = some (.val (.builtin "ValueError.__init__"))
section
variable {X : Cx} {e : Expr} {es : List Expr} {ta : TA} {p1 p2 pos : Pos} {x : Str} {B : Addr}
/-- B.__init__(self, ..) -/
theorem pe_baseini {pl : Sem Bool} (T : BasE X.K B) (hg : Gl X x) (hm : X.mg x = some (.ref B)) (ha : PA X (e :: es) ta) (hdb : (x == ("__debug__" : Str)) = false := by decide)
    (hc : eval (.Call (.Attribute (.Name x p1) "__init__" p2) (e :: es) [] pos) X.env = (do
      let ov ← eval (.Name x p1) X.env
      standAt p2.atName
      let (f, first) ← holding [ov] (getMethod ov "__init__" pl)
      callWith pos f first (backTo pos (starEach (e :: es) X.env)) (backToKw pos (keywordEach [] X.env))) := by rfl)
    (he : starEach (e :: es) X.env = (false, eval e X.env) :: starEach es X.env := by rfl) (hpl : (backTo pos (starEach es X.env)).any (·.1) = false := by rfl) :
    PE X (.Call (.Attribute (.Name x p1) "__init__" p2) (e :: es) [] pos) (tVeI X.K ta) := by
  refine ⟨fun pins s σ H Q I h => ?_⟩
  refine PySem.W.methodCall_KW (ld_glob I hg hm ?_ hdb) hc
  obtain ⟨m, fr⟩ := I.fr
  refine PySem.W.method_of_cls fr I.ok.mod.kin T.sp (PySem.W.cls_val fr I.ok.mod.kin T.ty T.rd T.fc (by decide +kernel) ?_)
  show wpAny _ _ (callWith pos (Value.builtin "ValueError.__init__") [] (backTo pos (starEach (e :: es) X.env)) []) _ _ _
  refine PyProof.Rows.callWith_method1 (thn (ha.run pos pins _ σ H _ (I.tok _) h) fun us s1 ⟨vs, H1, I1, r1, a, C, ws, ev, hl, Tx, ea, q⟩ => ?_) he hpl
  subst ev
  cases r1 with
  | @cons _ u0 _ ur ra rw' =>
    cases (show u0 = Value.ref a from ra)
    exact oinit_ok Tx I1 ea (by rw [← Paired.length rw', sizeLine_eq]; omega) fun s' J => ⟨.non, H1, J, rfl, q⟩
end
/-- what the written part says of a class of errors with fields -/
def oexB (K : PySem.W.Frag) (C : Addr) : Bool := match K.lookup C with
  | some ⟨.type "type", _, .cls cd, sl⟩ => (match cd.mro, sl.toList with
    | .ref C' :: bm, [_, _, _, _, some (.builtin n), _] => C' == C && n == "ValueError.__new__" && !cd.hasDel && cd.hasDict && PySem.HandSPX.refsVE bm
    | _, _ => false)
  | _ => false
theorem oexB_ok {K : PySem.W.Frag} {C : Addr} (h : oexB K C = true) (sa : PySem.W.findIn K (.ref C) "__setattr__" = some (some (.builtin "object.__setattr__"))) (exC : PySem.W.subIn K (.ref C) (.type "BaseException") = some true) (tyC : PySem.W.typeIn K (.ref C) = some (.type "type")) (kC : PySem.W.keepIn K (.ref C) = true) : OexC K C := by
  refine ⟨?_, sa, exC, tyC, kC⟩
  unfold oexB at h
  split at h
  · rename_i dd cd sl ho
    split at h
    · rename_i C' bm k0 k1 k2 k3 n k5 hm hs
      simp only [Bool.and_eq_true, beq_iff_eq, Bool.not_eq_true'] at h
      obtain ⟨⟨⟨⟨rfl, rfl⟩, hdel⟩, hdd⟩, ht⟩ := h
      obtain ⟨nm, bs, mro, ns, qn, hd, sn, sub, ab, col, del⟩ := cd
      dsimp only at hm hdel hdd
      subst hm hdel hdd
      have hsl : sl = #[k0, k1, k2, k3, some (.builtin "ValueError.__new__"), k5] := by
        obtain ⟨l⟩ := sl
        simp only at hs
        rw [hs]
      subst hsl
      exact ⟨nm, qn, ns, bs, bm, sn, sub, ab, col, dd, k0, k1, k2, k3, k5, ho, ht⟩
    · cases h
  · cases h
/-- __init__(self, words, ..): it keeps what stands behind the words under the names ns -/
def spI (K : PySem.W.Frag) (ns : List Str) : Sp := fun vs H Q E => vs.length = ns.length + 2 ∧ ∃ (a C : Addr) (w : Str) (ws : List V), vs = .ref a :: .str w :: ws ∧ OexC K C ∧ (∀ n ∈ ns, PySem.W.findIn K (.ref C) n = some none) ∧ H a = some (exo a C none) ∧
  ∀ d H', H d = none → d ≠ a → (∀ b, b ≠ a → b ≠ d → H' b = H b) → H' a = some (exo a C (some d)) → H' d = some (exd d (ns.zip ws).reverse) → Q .non H'
section
variable {K : PySem.W.Frag}
theorem ini_one {n1 : Str} {N : List Str} {vs : List V} {H : Hp} {Q : VK} {E : XK} (h : spI K [n1] vs H Q E) (D : Ends) (hD : ∀ σ H', Q .non H' → D.nx σ H') :
    tSeq (tDrop (tVeI K (tCons (tVar 0) (tCons (tVar 1) tNil)))) (tSeq (tOst K n1 (tVar 0) (tVar 2)) tNext) D (start N vs) H := by
  obtain ⟨hl, a, C, w, ws, rfl, T, hno, ha, q⟩ := h
  match ws, hl with
  | [y], _ =>
    refine ⟨.ref a, rfl, .str w, rfl, a, C, [.str w], rfl, by simp, T, ha, ?_⟩
    refine ⟨y, rfl, .ref a, rfl, a, C, rfl, T, hno n1 (by simp), .inl ⟨ha, fun dx n ne => ?_⟩⟩
    refine hD _ _ (q dx _ n ne (fun b b1 b2 => ?_) ?_ ?_)
    · rw [upd_ne b1, upd_ne b2]
    · exact upd_same
    · rw [upd_ne ne, upd_same]; rfl
theorem ini_two {n1 n2 : Str} {N : List Str} {vs : List V} {H : Hp} {Q : VK} {E : XK} (h : spI K [n1, n2] vs H Q E) (D : Ends) (hD : ∀ σ H', Q .non H' → D.nx σ H') :
    tSeq (tDrop (tVeI K (tCons (tVar 0) (tCons (tVar 1) tNil)))) (tSeq (tOst K n1 (tVar 0) (tVar 2)) (tSeq (tOst K n2 (tVar 0) (tVar 3)) tNext)) D (start N vs) H := by
  obtain ⟨hl, a, C, w, ws, rfl, T, hno, ha, q⟩ := h
  match ws, hl with
  | [y, z], _ =>
    refine ⟨.ref a, rfl, .str w, rfl, a, C, [.str w], rfl, by simp, T, ha, ?_⟩
    refine ⟨y, rfl, .ref a, rfl, a, C, rfl, T, hno n1 (by simp), .inl ⟨ha, fun dx n ne => ?_⟩⟩
    refine ⟨z, rfl, .ref a, rfl, a, C, rfl, T, hno n2 (by simp), .inr ⟨dx, [(n1, y)], upd_same, by rw [upd_ne ne, upd_same], by simp, ?_⟩⟩
    refine hD _ _ (q dx _ n ne (fun b b1 b2 => ?_) ?_ ?_)
    · rw [upd_ne b2, upd_ne b1, upd_ne b2]
    · rw [upd_ne (Ne.symm ne), upd_same]
    · rw [upd_same]; rfl
end
end L2
namespace DL
open PySem PySem.Spec PyProof.Rows L2
/-- a class of errors with the fields ns -/
structure FldOk (P : Program) (w : World) (K : PySem.W.Frag) (mg : Str → Option Value) (base : Heap) (k : Nat) (c : String) (ns : List Str) : Prop where
  ok : ∃ (C fI : Addr) (fd : FuncData), OexC K C ∧ (∀ n ∈ ns, PySem.W.findIn K (.ref C) n = some none) ∧ PySem.W.findIn K (.ref C) "__init__" = some (some (.ref fI)) ∧ PySem.W.typeIn K (.ref fI) = some (.type "function") ∧
    mg (Str.ofString c) = some (.ref C) ∧ Binds K fd ("self" :: "words" :: ns) [] ∧ FnOk P w K mg base (L2.CX P w) k fI fd ("self" :: "words" :: ns) (spI K ns)
theorem FldOk.up {P : Program} {w : World} {K : PySem.W.Frag} {mg : Str → Option Value} {base : Heap} {j k : Nat} {c : String} {ns : List Str} (h : FldOk P w K mg base j c ns) (hjk : j ≤ k) : FldOk P w K mg base k c ns := by
  obtain ⟨C, fI, fd, a1, a2, a3, a4, a5, a6, a7⟩ := h.ok
  exact ⟨⟨C, fI, fd, a1, a2, a3, a4, a5, a6, a7.mono hjk⟩⟩
def fldsD (ns : List Str) (ds : List D) : List (D × D) := (ns.zip ds).reverse.map fun p => (D.str p.1, p.2)
theorem fldsD_cons (n : Str) (ns : List Str) (d : D) (ds : List D) : fldsD (n :: ns) (d :: ds) = fldsD ns ds ++ [(D.str n, d)] := by
  unfold fldsD
  rw [List.zip_cons_cons, List.reverse_cons, List.map_append]
  rfl
theorem fldsD_rep {K : PySem.W.Frag} {G : Hp} : ∀ {ns : List Str} {ds : List D} {ws : List V}, ds.length = ns.length → RepL K G ds ws →
    (fldsD ns ds).map (·.1) = ((ns.zip ws).reverse).map (fun p => D.str p.1) ∧ RepV K G (fldsD ns ds) (((ns.zip ws).reverse).map (·.2))
  | [], [], _, _, e => by rw [show _ = [] from e]; exact ⟨rfl, rfl⟩
  | [], _ :: _, _, h, _ => by simp at h
  | _ :: _, [], _, h, _ => by simp at h
  | n :: ns, d :: ds, _, h, ⟨v, r, e, x, y⟩ => by
    subst e
    obtain ⟨a, b⟩ := fldsD_rep (ns := ns) (by simpa using h) y
    rw [fldsD_cons, List.zip_cons_cons, List.reverse_cons, List.map_append, List.map_append, List.map_append, a]
    exact ⟨rfl, repv_app b x⟩
section
variable {X : Cx} {W : WX} {H0 : Bas} {G0 : Hp} {al : List Nat} {ex : Expr} {es : List Expr} {pos p p1 : Pos}
end
end DL

/-! except clauses that look at the error's fields -/
namespace DL
open PySem PySem.Spec PyProof.Rows L2
section
variable {X : Cx} {W : WX} {A : Nat → Prop} {pos p p1 p2 p3 : Pos} {H0 : Bas} {G0 : Hp}
/-- what the error's slot holds -/
def slotX (a : Addr) : Option Addr → List (D × D) → D
  | none, _ => .obj (.ref a)
  | some dd, fs => .exn a dd fs
/-- a clause: the slot of its name, what it does at each class, its suite -/
abbrev HdX := Nat × (String → Option Bool) × (Addr → Option Addr → String → DL.Env → Out)
inductive HdDX (X : Cx) (H0 : Bas) (G0 : Hp) : List ExceptHandler → List HdX → Prop
  | nil : HdDX X H0 G0 [] []
  | cons {i : Nat} {x n : Str} {c : Value} {suite : List Stmt} {b₀ : Stmt} {np pos' : Pos} {h : String → Option Bool} {fs : Addr → Option Addr → String → DL.Env → Out} {hds : List ExceptHandler} {l : List HdX} (hi : X.N[i]? = some n) (hln : X.env.kindOf n = some .local) (hc : Names X x c) (hh : Clause X.K X.mg c h)
    (hsu : ∀ (a : Addr) (oe : Obj) (cls : Value) (d : Option Addr) (pn : List (Addr × Obj)) (k : String), Zc cls d oe → (∃ vs, oe.data = .fields vs) → X.mg (Str.ofString k) = some cls → DSs (X.suite a ((a, oe) :: pn)) WF H0 G0 (b₀ :: suite) (fs a d k)) (r : HdDX X H0 G0 hds l) :
    HdDX X H0 G0 (.ExceptHandler (some (.Name x np)) (some n) (b₀ :: suite) pos' :: hds) ((i, h, fs) :: l)
end
end DL

/-! l.pop(i) as a statement; a text so many times -/
namespace L2
open PySem PySem.Spec PyProof.Rows
end L2
namespace DL
open PySem PySem.Spec PyProof.Rows L2
section
variable {X : Cx} {W : WX}
end
end DL

/-! defs with defaults -/
namespace DL
open PySem PySem.Spec PyProof.Rows L2
/-- a def with defaults dd, called by name -/
structure CallOkD (P : Program) (w : World) (K : PySem.W.Frag) (mg : Str → Option Value) (base : Heap) (k : Nat) (x : Str) (ps : List Str) (dd : List D) (F : List D → Res D) : Prop where
  ok : ∃ f fd dvs dus, mg x = some (.ref f) ∧ PySem.W.keepIn K (.ref f) = true ∧ Vals dvs dus ∧ Binds K fd ps dus ∧ (∀ G, RepL K G dd dvs) ∧ FnOk P w K mg base (L2.CX P w) k f fd ps (spD K mg ps.length F)
structure CallOkND (P : Program) (w : World) (K : PySem.W.Frag) (mg : Str → Option Value) (base : Heap) (k : Nat) (x : Str) (ps : List Str) (dd : List D) (F : List D → Res D) : Prop where
  ok : ∃ f fd dvs dus, mg x = some (.ref f) ∧ PySem.W.keepIn K (.ref f) = true ∧ Vals dvs dus ∧ Binds K fd ps dus ∧ (∀ G, RepL K G dd dvs) ∧ FnOk P w K mg base (L2.CX P w) k f fd ps (spN K mg ps.length F)
theorem CallOkD.up {P : Program} {w : World} {K : PySem.W.Frag} {mg : Str → Option Value} {base : Heap} {j k : Nat} {x : Str} {ps : List Str} {dd : List D} {F : List D → Res D} (h : CallOkD P w K mg base j x ps dd F) (hjk : j ≤ k) : CallOkD P w K mg base k x ps dd F :=
  let ⟨f, fd, a, b, h1, h2, h3, h4, h5, h6⟩ := h.ok
  ⟨f, fd, a, b, h1, h2, h3, h4, h5, h6.mono hjk⟩
theorem CallOkND.up {P : Program} {w : World} {K : PySem.W.Frag} {mg : Str → Option Value} {base : Heap} {j k : Nat} {x : Str} {ps : List Str} {dd : List D} {F : List D → Res D} (h : CallOkND P w K mg base j x ps dd F) (hjk : j ≤ k) : CallOkND P w K mg base k x ps dd F :=
  let ⟨f, fd, a, b, h1, h2, h3, h4, h5, h6⟩ := h.ok
  ⟨f, fd, a, b, h1, h2, h3, h4, h5, h6.mono hjk⟩
section
variable {X : Cx} {W : WX} {ex : Expr} {es : List Expr} {pos : Pos}
end
section
variable {P : Program} {w : World} {K : PySem.W.Frag} {mg : Str → Option Value} {base : Heap} {x qual : Str} {params : Arguments} {body : List Stmt} {scope : Scope} {dvs : List V} {f : Addr} {fd : FuncData} {N ps : List Str} {k : Nat} {fb : Env → Out}
end
/-! ### methods without arguments that change their list -/
section
variable {X : Cx} {W : WX} {H0 : Bas} {G0 : Hp} {al : List Nat} {pos apos cpos p1 : Pos}
end
end DL

/-! errors as values: kept behind their clause, made, asked -/
namespace L2
open PySem PySem.Spec PyProof.Rows
section
variable {X : Cx} {pins : List (Addr × Obj)} {σ : St} {H : Hp} {s : Shared}
end
section
variable {X : Cx} {x n : Str} {c : Value} {i : Nat} {body suite : List Stmt} {b₀ : Stmt} {np pos pos' : Pos} {tb : WX → TS} {ts : Addr → Value → Option Addr → TS} {Wout : WX}
end
end L2
namespace DL
open PySem PySem.Spec PyProof.Rows L2
/-- classes by their names in the module -/
def NsTab (K : PySem.W.Frag) (mg : Str → Option Value) (h : String → Option Bool) : Prop := ∀ c cls, h c = some true → mg (Str.ofString c) = some cls → ∃ C, cls = .ref C ∧ PySem.W.nsIn K mainGlobals (Str.ofString c) = some (some (.ref C))
theorem NsTab.nil {K : PySem.W.Frag} {mg : Str → Option Value} : NsTab K mg (fun _ => none) := fun c cls h _ => by cases h
theorem NsTab.cons {K : PySem.W.Frag} {mg : Str → Option Value} {n : String} {C : Addr} {b : Bool} {f : String → Option Bool} (hm : mg (Str.ofString n) = some (.ref C)) (hn : PySem.W.nsIn K mainGlobals (Str.ofString n) = some (some (.ref C))) (t : NsTab K mg f) : NsTab K mg (fun s => if s = n then some b else f s) := fun c cls h hcl => by
  dsimp only at h
  by_cases hk : c = n
  · subst hk
    rw [hm] at hcl
    cases hcl
    exact ⟨C, rfl, hn⟩
  · rw [if_neg hk] at h
    exact t c cls h hcl
section
variable {X : Cx} {W : WX} {A : Nat → Prop} {pos p p1 p2 p3 : Pos} {H0 : Bas} {G0 : Hp}
/-! ### isinstance of an error held as a value -/
def ErrTab (K : PySem.W.Frag) (cv : Value) (t : String → Option Bool) : Prop := ∀ c b C, t c = some b → PySem.W.nsIn K mainGlobals (Str.ofString c) = some (some (.ref C)) → ExcC K C ∧ PySem.W.kitOne K (.ref C) cv = some b
theorem ErrTab.nil {K : PySem.W.Frag} {cv : Value} : ErrTab K cv (fun _ => none) := fun c b C h _ => by cases h
theorem ErrTab.cons {K : PySem.W.Frag} {cv : Value} {n : String} {C : Addr} {b : Bool} {f : String → Option Bool} (hn : PySem.W.nsIn K mainGlobals (Str.ofString n) = some (some (.ref C))) (hc : ExcC K C) (he : PySem.W.kitOne K (.ref C) cv = some b) (t : ErrTab K cv f) : ErrTab K cv (fun s => if s = n then some b else f s) := fun k b' C' h hcl => by
  dsimp only at h
  by_cases hk : k = n
  · subst hk
    rw [if_pos rfl] at h
    cases h
    rw [hn] at hcl
    cases hcl
    exact ⟨hc, he⟩
  · rw [if_neg hk] at h
    exact t k b' C' h hcl
def dIsV (t : String → Option Bool) : D → Res D
  | .err c _ => match t c with
    | some b => .ok (.bl b)
    | none => .bad
  | _ => .bad
theorem de_isV {x y : Str} {a : Expr} {f : DL.Env → Res D} {cv : Value} {v : V} {t : String → Option Bool} (ht : ErrTab X.K cv t) (ha : DE X W A a f) (hg : Gl X x) (hmx : X.mg x = none) (hvx : bootBuiltins x = some (.builtin "isinstance")) (hy : PE X (.Name y p3) (tC v)) (hcv : ∀ u, RelV v u → u = cv)
    (hnx : x ≠ "__name__" := by decide) (hdb : (x == ("__debug__" : Str)) = false := by decide)
    (he : starEach (a :: [.Name y p3]) X.env = (false, eval a X.env) :: starEach [.Name y p3] X.env := by rfl) (he2 : starEach (.Name y p3 :: []) X.env = (false, eval (.Name y p3) X.env) :: starEach [] X.env := by rfl) (hpl : (backTo pos (starEach [.Name y p3] X.env)).any (·.1) = false := by rfl) :
    DE X W A (.Call (.Name x p) [a, .Name y p3] [] pos) (e1 (dIsV t) f) := by
  refine (pe_callB call_isV hg hmx hvx (pa_cons ha (pa_cons hy pa_nil he2) he) hnx hdb he hpl).imp fun σ H Q ⟨e, G, E, q⟩ => ?_
  refine ⟨e, G, E, q.split.imp fun d H1 G1 x1 p1 u ru => ?_⟩
  cases d with
  | err c kvs =>
    obtain ⟨a, C, e0, hn, r⟩ := ru
    subst e0
    have p1 : PostG X.K X.mg (fun c o H' => W c o σ H') H1 G1 (match t c with | some b => .ok (.bl b) | none => .bad) (fun d H' G' => ∀ v, Rep X.K G' d v → Q v H') := p1
    cases hb : t c with
    | none => rw [hb] at p1; exact p1.elim
    | some b =>
      rw [hb] at p1
      obtain ⟨hE, hK⟩ := ht c b C hb hn
      rcases r with ⟨_, o, s, z⟩ | ⟨dd, ps, o, o2, s, z, s2, z2, _, _⟩
      · exact ⟨a, C, none, o, v, cv, b, rfl, x1.gh _ _ s, z, hE, hcv, hK, (fun dd e => nomatch e), p1.val x1.gh rfl⟩
      · exact ⟨a, C, some dd, o, v, cv, b, rfl, x1.gh _ _ s, z, hE, hcv, hK, (fun d' e => by cases e; exact ⟨ps, o2, x1.gh _ _ s2, z2⟩), p1.val x1.gh rfl⟩
  | _ => exact (show False from p1).elim
end
end DL

/-! errors made as values; their fields -/
namespace L2
open PySem PySem.Spec PyProof.Rows
theorem exO_is {C a : Addr} : DL.ErrH C none a (ExO (.ref C) a) := fun P w H h x => by
  obtain ⟨oe, vs, e, z, d, _⟩ := x.1
  exact ⟨oe, vs, e, z, d⟩
theorem exo_is {C a : Addr} {d : Option Addr} : DL.ErrH C d a (exo a C d) := fun P w H h x => by
  obtain ⟨t, e⟩ := x.1
  exact ⟨_, _, e, ⟨rfl, rfl⟩, rfl⟩
theorem exd_is {d : Addr} {ps : List (Str × V)} : DL.XdH ps d (exd d ps) := fun P w H h x => x.1
/-- C(e, ..) as a value -/
def tNewX (C : Addr) (sp : Sp) (ta : TA) : TE := fun σ H Q => ta σ H fun vs H1 => vs.length ≤ 1000 ∧ ∀ a, H1 a = none → sp (.ref a :: vs) (upd H1 a (exo a C none)) (fun v H2 => v = .non ∧ Q (.ref a) H2) (fun _ _ _ => False)
section
variable {X : Cx} {e : Expr} {es : List Expr} {ta : TA} {p pos : Pos}
theorem pe_newX {CX : CXT} {x : Str} {C fI : Addr} {k : Nat} {fd : FuncData} {ps : List Str} {sp : Sp} (T : OexC X.K C) (iC : PySem.W.findIn X.K (.ref C) "__init__" = some (some (.ref fI))) (tI : PySem.W.typeIn X.K (.ref fI) = some (.type "function"))
    (F1 : FnOk X.prog X.w X.K X.mg X.base CX k fI fd ps sp) (hr : Room (k + 1) X.A) (hb : Binds X.K fd ps []) (hx : Passes CX X (fun _ _ _ => False)) (hg : Gl X x) (hm : X.mg x = some (.ref C)) (ha : PA X (e :: es) ta)
    (hdb : (x == ("__debug__" : Str)) = false := by decide) (he : starEach (e :: es) X.env = (false, eval e X.env) :: starEach es X.env := by rfl) (hpl : (backTo pos (starEach es X.env)).any (·.1) = false := by rfl) :
    PE X (.Call (.Name x p) (e :: es) [] pos) (tNewX C sp ta) := by
  refine ⟨fun pins s σ H Q I h => ?_⟩
  obtain ⟨nm, q, N, bs, bm, sn, sub, ab, col, dd, k0, k1, k2, k3, k5, hC, hbm⟩ := T.cls
  refine wpAny_Call_Name_kw (ld_glob I hg hm ?_ hdb)
  refine PySem.W.callWith_K (h₀ := X.base) I.ok.mod.kin T.kC (thn (ha.run pos pins s σ H _ I h) fun us s1 ⟨vs, H1, I1, r1, hz, q1⟩ => ⟨I1.kIn, ?_⟩) he hpl
  show wpAny _ _ (call (.ref C) us) _ _ _
  obtain ⟨hp, g, dr, tk, os⟩ := s1
  have hn : H1 (hp.objs.size + 1) = none := I1.hok.fresh (Nat.le_succ _)
  have hq := q1 (hp.objs.size + 1) hn
  have hget : ((hp.push (PySem.W.kdv_tup us)).push (PySem.HandSPX.excO C hp.objs.size)).get? (hp.objs.size + 1) = some (PySem.HandSPX.excO C hp.objs.size) := by heap_get
  have I2 := I1.laid (t' := tk) (a := hp.objs.size + 1) (o := exo (hp.objs.size + 1) C none) (h' := (hp.push (PySem.W.kdv_tup us)).push (PySem.HandSPX.excO C hp.objs.size)) (fun b o e => Heap.get?_push_of_some _ (Heap.get?_push_of_some _ e)) (Nat.le_succ _) (exo_ok hget)
  have r2 : Vals (V.ref (hp.objs.size + 1) :: vs) (Value.ref (hp.objs.size + 1) :: us) := .cons rfl r1
  have hl : (Value.ref (hp.objs.size + 1) :: us).length = ps.length := r2.length.symm.trans (F1.len _ _ _ _ hq)
  have hus : us.length ≤ sizeLine := by
    rw [← Paired.length r1, sizeLine_eq]
    omega
  have hb' := hb ⟨_, g, dr, tk, os⟩ (Value.ref (hp.objs.size + 1) :: us) I2.kIn (by rw [List.append_nil]; exact hl)
  rw [List.append_nil] at hb'
  refine wpAny_call (PySem.HandSPX.call_own F.excBase_ValueError (fun Y => PySem.HandSPX.refsVE_contains Y bm hbm) (I1.kIn _ _ hC) (PySem.W.looks_findIn I1.kIn iC) (fun self => PySem.W.bind_fn I1.kIn self tI) hus
    (codeAny_mono (F1.run _ X.stack _ _ ⟨Value.ref (hp.objs.size + 1) :: us, []⟩ _ _ _ (fun _ _ _ => False) (hr.make C us []) (I2.env0.make C us []) hb' r2 hq) fun r s' hq' => ?_))
  cases r with
  | error er => exact hx pins σ _ _ er s' I2 hq'
  | ok fl =>
    cases fl with
    | ret u =>
      obtain ⟨v, H2, J, rv, ev, q2⟩ := I2.after hq'
      subst ev
      exact ⟨rv, ⟨.ref (hp.objs.size + 1), H2, J, rfl, q2⟩⟩
    | next => exact False.elim hq'
    | brk => exact False.elim hq'
    | cont => exact False.elim hq'
/-- x.f, x an error held as a value -/
def tXv (K : PySem.W.Frag) (f : Str) (te : TE) : TE := fun σ H Q => te σ H fun x H1 => ∃ (a C dd : Addr) (ps : List (Str × V)) (o o2 : HO) (v : V), x = .ref a ∧ H1 a = some o ∧ DL.ErrH C (some dd) a o ∧ H1 dd = some o2 ∧ DL.XdH ps dd o2 ∧ XfC K C ∧ PySem.W.findIn K (.ref C) f = some none ∧ ps.lookup f = some v ∧ Q v H1
theorem pe_xv {te : TE} {n : Str} (he : PE X e te) (hb : attributeBase e n X.env (eval e X.env) = eval e X.env := by rfl) : PE X (.Attribute e n pos) (tXv X.K n te) := by
  refine ⟨fun pins s σ H Q I h => attr_of hb (thn (he.run pins s σ H _ I h) fun u s1 hh => ?_)⟩
  obtain ⟨x, H1, I1, rx, a, C, dd, ps, o, o2, v, ex, ea, eE, ed, eD, T, hno, l, q⟩ := hh
  subst ex
  obtain rfl : u = Value.ref a := rx
  obtain ⟨oe, vs, hget, hz, hv⟩ := eE _ _ _ _ (I1.hok a _ ea)
  obtain ⟨mA, hns, hr⟩ := eD _ _ _ _ (I1.hok dd _ ed)
  obtain ⟨od, ho, hl⟩ := lookIn_ns hns
  obtain ⟨u, hu, ru⟩ := RelO.some_of (v := v) (o := mA n) (by rw [← l]; exact hr n)
  have J : PySem.W.InstAt s1.heap a oe C (some od) := ⟨hget, hz.1, by unfold PySem.W.notCls; rw [hv], by rw [hz.2]; exact ho⟩
  exact HandSPX.exc_get I1.kIn J T.ga T.gg T.exC (PySem.W.findObj_own T.hdC hno rfl (by rw [hl, hu])) (handed_of ru) ⟨v, H1, I1.tok _, ru, q⟩
end
end L2
namespace DL
open PySem PySem.Spec PyProof.Rows L2
section
variable {X : Cx} {W : WX} {A : Nat → Prop} {pos p p1 p2 p3 : Pos}
def eNewE (c : String) (f : DL.Env → Res D) : DL.Env → Res D := fun e => (f e).bind fun _ => .ok (.err c [])
theorem de_newE {c : String} {a : Expr} {f : DL.Env → Res D} (hx : ExcOk X.K X.mg c) (hn : ∀ C, X.mg (Str.ofString c) = some (.ref C) → PySem.W.nsIn X.K mainGlobals (Str.ofString c) = some (some (.ref C))) (hg : Gl X (Str.ofString c)) (ha : DE X W A a f)
    (hs : starEach [a] X.env = (false, eval a X.env) :: starEach [] X.env := by rfl) (hdb : (Str.ofString c == ("__debug__" : Str)) = false := by decide) : DE X W A (.Call (.Name (Str.ofString c) p) [a] [] pos) (eNewE c f) := by
  obtain ⟨C, B, newId, initId, bmB, F, q, gC, kC, b1, b2⟩ := hx.ok
  refine (pe_exc1 F q gC kC hg ha hs hdb).imp fun σ H Q ⟨e, G, E, p⟩ => ⟨e, G, E, p.split.imp fun d H1 G1 x1 p1 v rv a na => ?_⟩
  have g1 := x1.gh
  exact p1 _ _ (Ext.laid g1 na) (.ref a) ⟨a, C, rfl, hn C gC, .inl ⟨rfl, _, upd_same, exO_is⟩⟩
def eNewX (c : String) (ns : List Str) (fs : DL.Env → Res (List D)) : DL.Env → Res D := fun e => (fs e).bind fun ds => match ds with
  | .str _ :: r => if r.length = ns.length ∧ ns ≠ [] then .ok (.err c (fldsD ns r)) else .bad
  | _ => .bad
theorem de_newX {c : String} {ns : List Str} {k : Nat} {ex : Expr} {es : List Expr} {fs : DL.Env → Res (List D)} (hF : FldOk X.prog X.w X.K X.mg X.base k c ns) (hn : ∀ C, X.mg (Str.ofString c) = some (.ref C) → PySem.W.nsIn X.K mainGlobals (Str.ofString c) = some (some (.ref C))) (hr : Room (k + 1) X.A) (tk : Takes X W) (hg : Gl X (Str.ofString c)) (ha : DA X W A (ex :: es) fs) (hl : ns.length ≤ 900 := by decide)
    (hdb : (Str.ofString c == ("__debug__" : Str)) = false := by decide) (he : starEach (ex :: es) X.env = (false, eval ex X.env) :: starEach es X.env := by rfl) (hpl : (backTo pos (starEach es X.env)).any (·.1) = false := by rfl) :
    DE X W A (.Call (.Name (Str.ofString c) p) (ex :: es) [] pos) (eNewX c ns fs) := by
  obtain ⟨C, fI, fd, T, hno, iC, tI, gC, hb, F1⟩ := hF.ok
  refine (pe_newX T iC tI F1 hr hb (passes_call tk fun _ _ _ _ h => h.elim) hg gC ha hdb he hpl).imp fun σ H Q ⟨e, G, E, p⟩ => ⟨e, G, E, p.split.imp fun ds H1 G1 x q vs rs => ?_⟩
  have g1 := x.gh
  match ds, q, rs with
  | .str u :: r, q, ⟨v, ws, ev, r1, r2⟩ =>
    subst ev
    cases (show v = .str u from r1)
    dsimp only at q
    by_cases hc : r.length = ns.length ∧ ns ≠ []
    · rw [if_pos hc] at q
      have hw : ws.length = ns.length := by rw [← hc.1]; exact r2.length
      refine ⟨by simp only [List.length_cons]; omega, fun a na => ⟨by simp only [List.length_cons]; omega, a, C, u, ws, rfl, T, hno, upd_same, fun d H' nd ne hk e1 e2 => ⟨rfl, ?_⟩⟩⟩
      have hd1 : H1 d = none := by rw [upd_ne ne] at nd; exact nd
      have sh : ∀ b, b ≠ a → b ≠ d → H' b = H1 b := fun b b1 b2 => by rw [hk b b1 b2, upd_ne b1]
      have sb : Sub H1 H' := fun b o eb => by
        rw [sh b (fun z => by rw [z, na] at eb; cases eb) (fun z => by rw [z, hd1] at eb; cases eb)]
        exact eb
      have ga : G1 a = none := g1.free na
      have gd : G1 d = none := g1.free hd1
      have sg : Sub G1 (upd (upd G1 d (exd d (ns.zip ws).reverse)) a (exo a C (some d))) := fun b o eb => by
        rw [upd_ne (fun z => by rw [z, ga] at eb; cases eb), upd_ne (fun z => by rw [z, gd] at eb; cases eb)]
        exact eb
      obtain ⟨k1, k2⟩ := fldsD_rep hc.1 r2
      refine q H' (upd (upd G1 d (exd d (ns.zip ws).reverse)) a (exo a C (some d))) ⟨sb, sg, fun b o eb => ?_, fun b z => ?_⟩ (.ref a) ⟨a, C, rfl, hn C gC, .inr ⟨d, _, _, _, upd_same, exo_is, by rw [upd_ne ne, upd_same], exd_is, k1, RepV.mono sg k2⟩⟩
      · by_cases ba : b = a
        · subst ba; rw [upd_same] at eb; cases eb; exact e1
        · rw [upd_ne ba] at eb
          by_cases bd : b = d
          · subst bd; rw [upd_same] at eb; cases eb; exact e2
          · rw [upd_ne bd] at eb; rw [sh b ba bd]; exact g1 _ _ eb
      · by_cases ba : b = a
        · subst ba; exact .inr (.inl na)
        · rw [upd_ne ba] at z
          by_cases bd : b = d
          · subst bd; exact .inr (.inl hd1)
          · rw [upd_ne bd] at z; exact .inl z
    · rw [if_neg hc] at q; exact q.elim
/-- which classes keep fields under this name, by the module's names -/
def FldNs (K : PySem.W.Frag) (n : Str) (t : String → Bool) : Prop := ∀ c C, t c = true → PySem.W.nsIn K mainGlobals (Str.ofString c) = some (some (.ref C)) → XfC K C ∧ PySem.W.findIn K (.ref C) n = some none
theorem FldNs.nil {K : PySem.W.Frag} {n : Str} : FldNs K n (fun _ => false) := fun c C h _ => by cases h
theorem FldNs.cons {K : PySem.W.Frag} {n : Str} {x : String} {C : Addr} {f : String → Bool} (hm : PySem.W.nsIn K mainGlobals (Str.ofString x) = some (some (.ref C))) (hx : XfC K C) (hn : PySem.W.findIn K (.ref C) n = some none) (t : FldNs K n f) : FldNs K n (fun s => if s = x then true else f s) := fun c C' h hcl => by
  dsimp only at h
  by_cases hk : c = x
  · subst hk
    rw [hm] at hcl
    cases hcl
    exact ⟨hx, hn⟩
  · rw [if_neg hk] at h
    exact t c C' h hcl
def dFldV (t : String → Bool) (n : Str) : D → Res D
  | .err c kvs => if t c = true then (match fldOf kvs n with | some x => .ok x | none => .bad) else .bad
  | _ => .bad
theorem de_fldV {a : Expr} {f : DL.Env → Res D} {n : Str} {t : String → Bool} (ht : FldNs X.K n t) (ha : DE X W A a f) (hb : attributeBase a n X.env (eval a X.env) = eval a X.env := by rfl) : DE X W A (.Attribute a n pos) (e1 (dFldV t n) f) := by
  refine (pe_xv ha hb).imp fun σ H Q ⟨e, G, E, q⟩ => ⟨e, G, E, q.split.imp fun d H1 G1 x1 p1 u ru => ?_⟩
  cases d with
  | err c kvs =>
    obtain ⟨a, C, e0, hn, r⟩ := ru
    subst e0
    have p1 : PostG X.K X.mg (fun c o H' => W c o σ H') H1 G1 (if t c = true then (match fldOf kvs n with | some x => .ok x | none => .bad) else .bad) (fun d H' G' => ∀ v, Rep X.K G' d v → Q v H') := p1
    by_cases hc : t c = true
    · rw [if_pos hc] at p1
      obtain ⟨hx, hno⟩ := ht c C hc hn
      rcases r with ⟨k, _⟩ | ⟨dd, ps, o, o2, s, z, s2, z2, keys, rv⟩
      · subst k; exact (show False from p1).elim
      · cases hf : fldOf kvs n with
        | none => rw [hf] at p1; exact p1.elim
        | some y =>
          rw [hf] at p1
          obtain ⟨v, l, r1⟩ := fld_at keys rv hf
          exact ⟨a, C, dd, ps, o, o2, v, rfl, x1.gh _ _ s, z, x1.gh _ _ s2, z2, hx, hno, l, p1.here x1.gh v r1⟩
    · rw [if_neg hc] at p1; exact p1.elim
  | _ => exact (show False from p1).elim
end
end DL

/-! Typed readings of the plain-data bodies: what a body does, told over Lean's own types. -/
namespace DL
open PySem PySem.Spec PyProof.Rows L2
open PySem.Builtin.Int (intBits)

/-- two lists, item by item -/
def A2 {α β : Type} (E : α → β → Prop) : List α → List β → Prop
  | [], ds => ds = []
  | a :: l, ds => ∃ d r, ds = d :: r ∧ E a d ∧ A2 E l r
section
variable {α β : Type} {E : α → β → Prop}
theorem A2.nil : A2 E [] [] := rfl
theorem A2.cons {a : α} {d : β} {l : List α} {r : List β} (h : E a d) (t : A2 E l r) : A2 E (a :: l) (d :: r) := ⟨d, r, rfl, h, t⟩
theorem A2.length : ∀ {l : List α} {r : List β}, A2 E l r → r.length = l.length
  | [], _, h => by rw [show _ = [] from h]; rfl
  | _ :: _, _, ⟨d, r, e, _, t⟩ => by rw [e, List.length_cons, List.length_cons, A2.length t]
theorem A2.append : ∀ {l l' : List α} {r r' : List β}, A2 E l r → A2 E l' r' → A2 E (l ++ l') (r ++ r')
  | [], _, _, _, h, t => by rw [show _ = [] from h]; exact t
  | _ :: _, _, _, _, ⟨d, r, e, x, y⟩, t => by rw [e]; exact ⟨d, _, rfl, x, A2.append y t⟩
theorem A2.reverse : ∀ {l : List α} {r : List β}, A2 E l r → A2 E l.reverse r.reverse
  | [], _, h => by rw [show _ = [] from h]; rfl
  | _ :: _, _, ⟨d, r, e, x, y⟩ => by rw [e, List.reverse_cons, List.reverse_cons]; exact (A2.reverse y).append ⟨d, [], rfl, x, rfl⟩
theorem A2.drop : ∀ {l : List α} {r : List β} (n : Nat), A2 E l r → A2 E (l.drop n) (r.drop n)
  | _, _, 0, h => h
  | [], _, n + 1, h => by rw [show _ = [] from h]; rfl
  | _ :: _, _, n + 1, ⟨d, r, e, x, y⟩ => by rw [e]; exact A2.drop n y
theorem A2.take : ∀ {l : List α} {r : List β} (n : Nat), A2 E l r → A2 E (l.take n) (r.take n)
  | _, _, 0, h => rfl
  | [], _, n + 1, h => by rw [show _ = [] from h]; rfl
  | _ :: _, _, n + 1, ⟨d, r, e, x, y⟩ => by rw [e]; exact ⟨d, _, rfl, x, A2.take n y⟩
theorem A2.set {a : α} {d : β} (h : E a d) : ∀ {l : List α} {r : List β} (n : Nat), A2 E l r → A2 E (l.set n a) (r.set n d)
  | [], _, n, e => by rw [show _ = [] from e]; rfl
  | _ :: _, _, 0, ⟨w, r, e, x, y⟩ => by rw [e]; exact ⟨d, r, rfl, h, y⟩
  | _ :: _, _, n + 1, ⟨w, r, e, x, y⟩ => by rw [e]; exact ⟨w, _, rfl, x, A2.set h n y⟩
theorem A2.get : ∀ {l : List α} {r : List β} {i : Nat} {a : α}, A2 E l r → l[i]? = some a → ∃ d, r[i]? = some d ∧ E a d
  | _ :: _, _, 0, _, ⟨v, r, e, x, y⟩, h => by cases h; exact ⟨v, by rw [e]; rfl, x⟩
  | _ :: _, _, i + 1, d, ⟨v, r, e, x, y⟩, h => by
    obtain ⟨w, h1, h2⟩ := A2.get (i := i) (a := d) y (by simpa using h)
    exact ⟨w, by rw [e]; simpa using h1, h2⟩
theorem A2.imp {E' : α → β → Prop} (f : ∀ a d, E a d → E' a d) : ∀ {l : List α} {r : List β}, A2 E l r → A2 E' l r
  | [], _, h => h
  | _ :: _, _, ⟨d, r, e, x, y⟩ => ⟨d, r, e, f _ _ x, A2.imp f y⟩
theorem A2.fn {f : α → β} : ∀ {l : List α} {r : List β}, A2 (fun a d => d = f a) l r ↔ r = l.map f
  | [], r => Iff.rfl
  | a :: l, r => ⟨fun ⟨d, r', e, x, y⟩ => by rw [e, x, A2.fn.mp y]; rfl, fun h => ⟨f a, l.map f, h, rfl, A2.fn.mpr rfl⟩⟩
end

/-- r tells what x is, where it tells at all -/
def Rf {α β : Type} (x : Res β) (r : Res α) (E : α → β → Prop) : Prop := match r with
  | .ok a => ∃ d, x = .ok d ∧ E a d
  | .exc c fs => x = .exc c fs
  | .bad => True
section
variable {α β γ δ : Type}
theorem Rf.bind {x : Res β} {r : Res α} {E : α → β → Prop} {f : β → Res δ} {g : α → Res γ} {E' : γ → δ → Prop} (h : Rf x r E) (k : ∀ a d, E a d → Rf (f d) (g a) E') : Rf (x.bind f) (r.bind g) E' := by
  cases r with
  | ok a => obtain ⟨d, e, h⟩ := h; rw [e]; exact k a d h
  | exc c fs => rw [show x = _ from h]; exact rfl
  | bad => trivial
theorem Rf.ok {d : β} {a : α} {E : α → β → Prop} (h : E a d) : Rf (.ok d) (.ok a) E := ⟨d, rfl, h⟩
theorem Rf.bad {x : Res β} {E : α → β → Prop} : Rf x .bad E := trivial
theorem Rf.imp {x : Res β} {r : Res α} {E E' : α → β → Prop} (h : Rf x r E) (f : ∀ a d, E a d → E' a d) : Rf x r E' := by
  cases r with
  | ok a => obtain ⟨d, e, h⟩ := h; exact ⟨d, e, f _ _ h⟩
  | exc c fs => exact h
  | bad => trivial
theorem Rf.map {x : Res β} {r : Res α} {E : α → β → Prop} {E' : γ → β → Prop} {g : α → γ} (h : Rf x r E) (f : ∀ a d, E a d → E' (g a) d) : Rf x (r.bind fun a => .ok (g a)) E' := by
  cases r with
  | ok a => obtain ⟨d, e, h⟩ := h; exact ⟨d, e, f _ _ h⟩
  | exc c fs => exact h
  | bad => trivial
theorem Rf.get {x : Res β} {r : Res α} {E : α → β → Prop} {a : α} (h : Rf x r E) (e : r = .ok a) : ∃ d, x = .ok d ∧ E a d := by subst e; exact h
/-- where the reckoning itself is told -/
theorem Rf.of {x : Res β} {r : Res α} {E : α → β → Prop} {d : β} {a : α} (e : x = .ok d) (q : r = .ok a) (h : E a d) : Rf x r E := by subst q; exact ⟨d, e, h⟩
end

/-- what is known of a name -/
abbrev Kn := D → Bool → Prop
abbrev KEnv := List (Option Kn)
def sh {α : Type} (E : α → D → Prop) (a : α) : Kn := fun d o => E a d ∧ o = false
def ow {α : Type} (E : α → D → Prop) (a : α) : Kn := fun d o => E a d ∧ o = true
/-- the names' values are as known -/
def Le : KEnv → DL.Env → Prop := A2 fun r x => ∀ P, r = some P → ∃ d o, x = some (d, o) ∧ P d o
theorem Le.get {ρ : KEnv} {e : DL.Env} (h : Le ρ e) {i : Nat} {P : Kn} (k : ρ[i]? = some (some P)) : ∃ d o, e[i]? = some (some (d, o)) ∧ P d o := by
  obtain ⟨x, h1, h2⟩ := A2.get h k
  obtain ⟨d, o, h3, h4⟩ := h2 P rfl
  exact ⟨d, o, by rw [h1, h3], h4⟩
theorem Le.set {ρ : KEnv} {e : DL.Env} (h : Le ρ e) (i : Nat) {P : Kn} {d : D} {o : Bool} (k : P d o) : Le (ρ.set i (some P)) (e.set i (some (d, o))) :=
  A2.set (fun Q hq => by cases hq; exact ⟨d, o, rfl, k⟩) i h
theorem Le.forget {ρ : KEnv} {e : DL.Env} (h : Le ρ e) (i : Nat) : Le (ρ.set i none) (e.set i none) := A2.set (fun Q hq => by cases hq) i h
/-- less is known -/
def Sb : KEnv → KEnv → Prop := A2 fun r x => r = none ∨ r = x
theorem Le.less {ρ' ρ : KEnv} {e : DL.Env} (s : Sb ρ' ρ) (h : Le ρ e) : Le ρ' e := by
  induction ρ generalizing ρ' e with
  | nil =>
    cases ρ' with
    | nil => exact h
    | cons r ρ' => obtain ⟨_, _, e, _⟩ := s; cases e
  | cons x ρ ih =>
    obtain ⟨y, e', rfl, h1, h2⟩ := h
    cases ρ' with
    | nil => cases (show _ = [] from s)
    | cons r ρ' =>
      obtain ⟨_, _, e, s1, s2⟩ := s
      cases e
      refine ⟨y, e', rfl, fun P hP => ?_, ih s2 h2⟩
      rcases s1 with z | z
      · rw [z] at hP; cases hP
      · exact h1 P (z ▸ hP)
theorem Sb.nil : Sb [] [] := rfl
theorem Sb.same {r : Option Kn} {a b : KEnv} (s : Sb a b) : Sb (r :: a) (r :: b) := ⟨_, _, rfl, .inr rfl, s⟩
theorem Sb.drop {r : Option Kn} {a b : KEnv} (s : Sb a b) : Sb (none :: a) (r :: b) := ⟨_, _, rfl, .inl rfl, s⟩
theorem Sb.refl : ∀ a : KEnv, Sb a a
  | [] => rfl
  | _ :: a => .same (Sb.refl a)
/-- a list is handed on: what was owned is owned no more -/
def frK (P : Kn) : Kn := fun d o => o = false ∧ ∃ o', P d o'
def fzK : List Nat → KEnv → KEnv
  | [], ρ => ρ
  | i :: r, ρ => fzK r (match ρ[i]? with
    | some (some P) => ρ.set i (some (frK P))
    | _ => ρ)
theorem Le.unown {ρ : KEnv} {e : DL.Env} (h : Le ρ e) (i : Nat) : Le (match ρ[i]? with | some (some P) => ρ.set i (some (frK P)) | _ => ρ) (unown i e) := by
  cases hp : ρ[i]? with
  | none =>
    have : e[i]? = none := by
      rw [List.getElem?_eq_none_iff] at hp ⊢
      rw [A2.length h]; exact hp
    unfold DL.unown
    rw [this]
    exact h
  | some r =>
    cases r with
    | none =>
      have self : ρ.set i none = ρ := by
        apply List.ext_getElem?
        intro j
        rw [List.getElem?_set]
        by_cases hj : i = j
        · subst hj
          obtain ⟨w, hw⟩ := List.getElem?_eq_some_iff.mp hp
          simp [w, hw]
        · simp [hj]
      unfold DL.unown
      cases he : e[i]? with
      | none => exact h
      | some s =>
        cases s with
        | none => exact h
        | some z =>
          obtain ⟨d, o⟩ := z
          cases o with
          | false => exact h
          | true =>
            show Le ρ (e.set i (some (d, false)))
            rw [← self]
            exact A2.set (fun P hP => by cases hP) i h
    | some P =>
      obtain ⟨d, o, he, hP⟩ := h.get hp
      unfold DL.unown
      rw [he]
      cases o with
      | true => exact Le.set h i ⟨rfl, _, hP⟩
      | false =>
        dsimp only
        have : e.set i (some (d, false)) = e := by
          apply List.ext_getElem?
          intro j
          rw [List.getElem?_set]
          by_cases hj : i = j
          · subst hj
            rw [he]
            have := (List.getElem?_eq_some_iff.mp he).1
            simp [this]
          · simp [hj]
        rw [← this]
        exact Le.set h i ⟨rfl, _, hP⟩
theorem Le.fz : ∀ (al : List Nat) {ρ : KEnv} {e : DL.Env}, Le ρ e → Le (fzK al ρ) (fz al e)
  | [], _, _, h => h
  | i :: r, _, _, h => Le.fz r (h.unown i)
def wipeK (ρ : KEnv) : List Nat → KEnv
  | [] => ρ
  | v :: vs => (wipeK ρ vs).set v none
theorem Le.wipe {ρ : KEnv} {e : DL.Env} (h : Le ρ e) : ∀ vs : List Nat, Le (wipeK ρ vs) (wipeE e vs)
  | [] => h
  | v :: vs => (Le.wipe h vs).forget v

/-! ### expressions -/
def EvR {α β : Type} (ρ : KEnv) (f : DL.Env → Res β) (r : Res α) (E : α → β → Prop) : Prop := ∀ e, Le ρ e → Rf (f e) r E
abbrev RE (α : Type) := α → D → Prop
def eI : RE Int := fun i d => d = .int i
def eB : RE Bool := fun b d => d = .bl b
def eS : RE Str := fun x d => d = .str x
def eN : RE Unit := fun _ d => d = .non
def eD : RE D := fun a d => d = a
def eL {α : Type} (E : RE α) : RE (List α) := fun l d => ∃ ds, d = .lst ds ∧ A2 E l ds
def eT {α : Type} (E : RE α) : RE (List α) := fun l d => ∃ ds, d = .tup ds ∧ A2 E l ds
/-- rows of numbers -/
def eR : RE (List Int) := fun k d => d = ans k
/-- tuples of known form: the items' list -/
def qN : Unit → List D → Prop := fun _ ds => ds = []
def q1 {α : Type} (E : RE α) : α → List D → Prop := fun a ds => ∃ d, ds = [d] ∧ E a d
def qC {α β : Type} (E : RE α) (Q : β → List D → Prop) : α × β → List D → Prop := fun p ds => ∃ d r, ds = d :: r ∧ E p.1 d ∧ Q p.2 r
/-- truths and lists, as they are -/
def Tr : Bool → Bool → Prop := fun a b => b = a
section
variable {α β γ δ : Type} {ρ : KEnv}
theorem v_s {i : Nat} {E : RE α} {a : α} (h : ρ[i]? = some (some (sh E a))) : EvR ρ (eVarS i) (.ok a) E := fun e l => by
  obtain ⟨d, o, h1, h2, h3⟩ := l.get h
  subst h3
  exact ⟨d, by unfold eVarS; rw [h1], h2⟩
theorem v_c {d : D} {E : RE α} {a : α} (h : E a d) : EvR ρ (eC d) (.ok a) E := fun e l => ⟨d, rfl, h⟩
theorem v_op {fa fb : DL.Env → Res D} {g : D → D → Res D} {Ea : RE α} {Eb : RE β} {Ec : RE γ} {ra : Res α} {rb : Res β} {gt : α → β → Res γ} (hg : ∀ a b x y, Ea a x → Eb b y → Rf (g x y) (gt a b) Ec) (ha : EvR ρ fa ra Ea) (hb : EvR ρ fb rb Eb) :
    EvR ρ (eOp g fa fb) (ra.bind fun a => rb.bind fun b => gt a b) Ec := fun e l => (ha e l).bind fun a x h1 => (hb e l).bind fun b y h2 => hg a b x y h1 h2
theorem v_opp {fa fb : DL.Env → Res D} {g : D → D → Res D} {Ea : RE α} {Eb : RE β} {Ec : RE γ} {a : α} {b : β} {r : Res γ} (hg : ∀ x y, Ea a x → Eb b y → Rf (g x y) r Ec) (ha : EvR ρ fa (.ok a) Ea) (hb : EvR ρ fb (.ok b) Eb) :
    EvR ρ (eOp g fa fb) r Ec := fun e l => by
  obtain ⟨x, e1, h1⟩ := ha e l
  obtain ⟨y, e2, h2⟩ := hb e l
  unfold eOp
  rw [e1, e2]
  exact hg x y h1 h2
theorem v_1 {fa : DL.Env → Res D} {g : D → Res D} {Ea : RE α} {Ec : RE γ} {ra : Res α} {gt : α → Res γ} (hg : ∀ a x, Ea a x → Rf (g x) (gt a) Ec) (ha : EvR ρ fa ra Ea) : EvR ρ (e1 g fa) (ra.bind gt) Ec := fun e l => (ha e l).bind hg
theorem v_1p {fa : DL.Env → Res D} {g : D → Res D} {Ea : RE α} {Ec : RE γ} {a : α} {r : Res γ} (hg : ∀ x, Ea a x → Rf (g x) r Ec) (ha : EvR ρ fa (.ok a) Ea) : EvR ρ (e1 g fa) r Ec := fun e l => by
  obtain ⟨x, e1, h1⟩ := ha e l
  unfold DL.e1
  rw [e1]
  exact hg x h1
theorem v_imp {fa : DL.Env → Res β} {E E' : α → β → Prop} {r : Res α} (h : EvR ρ fa r E) (f : ∀ a d, E a d → E' a d) : EvR ρ fa r E' := fun e l => (h e l).imp f
theorem v_cast {fa : DL.Env → Res β} {E : α → β → Prop} {E' : γ → β → Prop} {a : α} {c : γ} (h : EvR ρ fa (.ok a) E) (f : ∀ d, E a d → E' c d) : EvR ρ fa (.ok c) E' := fun e l => by
  obtain ⟨x, e1, h1⟩ := h e l
  exact ⟨x, e1, f x h1⟩
theorem vq_1 {f : DL.Env → Res D} {r : Res α} {E : RE α} (h : EvR ρ f r E) : EvR ρ (aCons f aNil) r (q1 E) := fun e l => by
  have := h e l
  unfold aCons aNil
  cases r with
  | ok a => obtain ⟨d, e1, h1⟩ := this; rw [e1]; exact ⟨[d], rfl, d, rfl, h1⟩
  | exc c fs => rw [show f e = _ from this]; rfl
  | bad => trivial
theorem vq_c {f : DL.Env → Res D} {fs : DL.Env → Res (List D)} {r : Res α} {rs : Res β} {E : RE α} {Q : β → List D → Prop} (h : EvR ρ f r E) (t : EvR ρ fs rs Q) : EvR ρ (aCons f fs) (r.bind fun a => rs.bind fun b => .ok (a, b)) (qC E Q) := fun e l =>
  (h e l).bind fun a d h1 => (t e l).bind fun b ds h2 => .ok ⟨d, ds, rfl, h1, h2⟩
theorem vq_cp {f : DL.Env → Res D} {fs : DL.Env → Res (List D)} {a : α} {b : β} {E : RE α} {Q : β → List D → Prop} (h : EvR ρ f (.ok a) E) (t : EvR ρ fs (.ok b) Q) : EvR ρ (aCons f fs) (.ok (a, b)) (qC E Q) := vq_c h t
/-- as many items as one likes, all of a kind -/
theorem vl_nil {E : RE α} : EvR ρ aNil (.ok []) (A2 E) := fun e l => ⟨[], rfl, rfl⟩
theorem vl_c {f : DL.Env → Res D} {fs : DL.Env → Res (List D)} {r : Res α} {rs : Res (List α)} {E : RE α} (h : EvR ρ f r E) (t : EvR ρ fs rs (A2 E)) : EvR ρ (aCons f fs) (r.bind fun a => rs.bind fun b => .ok (a :: b)) (A2 E) := fun e l =>
  (h e l).bind fun a d h1 => (t e l).bind fun b ds h2 => .ok ⟨d, ds, rfl, h1, h2⟩
theorem vl_cp {f : DL.Env → Res D} {fs : DL.Env → Res (List D)} {a : α} {b : List α} {E : RE α} (h : EvR ρ f (.ok a) E) (t : EvR ρ fs (.ok b) (A2 E)) : EvR ρ (aCons f fs) (.ok (a :: b)) (A2 E) := vl_c h t
theorem v_tupR {fs : DL.Env → Res (List D)} {r : Res (List Int)} (h : EvR ρ fs r (A2 eI)) : EvR ρ (eTup fs) r eR := fun e l => by
  have := h e l
  unfold eTup
  cases r with
  | ok a => obtain ⟨d, e1, h1⟩ := this; rw [e1]; exact ⟨_, rfl, by rw [A2.fn.mp h1]; rfl⟩
  | exc c fs' => rw [show fs e = _ from this]; rfl
  | bad => trivial
theorem v_lst {fs : DL.Env → Res (List D)} {r : Res (List α)} {E : RE α} (h : EvR ρ fs r (A2 E)) : EvR ρ (eLst fs) r (eL E) := fun e l => by
  have := h e l
  unfold eLst
  cases r with
  | ok a => obtain ⟨d, e1, h1⟩ := this; rw [e1]; exact ⟨_, rfl, d, rfl, h1⟩
  | exc c fs' => rw [show fs e = _ from this]; rfl
  | bad => trivial
/-- a call: what the def does on data of these readings -/
def CallR (F : List D → Res D) (Q : α → List D → Prop) (t : α → Res β) (E : RE β) : Prop := ∀ a ds, Q a ds → Rf (F ds) (t a) E
theorem v_call {F : List D → Res D} {fs : DL.Env → Res (List D)} {Q : α → List D → Prop} {t : α → Res β} {E : RE β} {r : Res α} (c : CallR F Q t E) (h : EvR ρ fs r Q) : EvR ρ (eCall F fs) (r.bind t) E := fun e l => (h e l).bind c
theorem v_callp {F : List D → Res D} {fs : DL.Env → Res (List D)} {Q : α → List D → Prop} {t : α → Res β} {E : RE β} {a : α} (c : CallR F Q t E) (h : EvR ρ fs (.ok a) Q) : EvR ρ (eCall F fs) (t a) E := fun e l => by
  obtain ⟨d, e1, h1⟩ := h e l
  unfold eCall
  rw [e1]
  exact c a d h1
/-! tests -/
theorem b_test {fa fb : DL.Env → Res D} {g : D → D → Res D} {r : Res Bool} (h : EvR ρ (eOp g fa fb) r eB) : EvR ρ (bTest g fa fb) r Tr := fun e l => by
  have := h e l
  unfold eOp at this
  unfold bTest
  have q : ∀ (x y : D), ((g x y).bind D.asB) = (g x y).bind D.asB := fun _ _ => rfl
  have ass : (fa e).bind (fun x => (fb e).bind fun y => (g x y).bind D.asB) = ((fa e).bind fun x => (fb e).bind fun y => g x y).bind D.asB := by
    cases fa e with
    | ok x => cases fb e <;> rfl
    | exc c fs => rfl
    | bad => rfl
  rw [ass]
  have z := this.bind (f := D.asB) (g := fun b => Res.ok b) (E' := Tr) fun b d hd => by rw [show d = _ from hd]; exact ⟨b, rfl, rfl⟩
  cases r <;> exact z
theorem b_truB {f : DL.Env → Res D} {r : Res Bool} (h : EvR ρ f r eB) : EvR ρ (bTruth f) r Tr := fun e l => by
  have := (h e l).bind (f := D.truth) (g := fun b => Res.ok b) (E' := Tr) fun b d hd => by rw [show d = _ from hd]; exact ⟨b, rfl, rfl⟩
  cases r <;> exact this
theorem b_and {fa fb : DL.Env → Res Bool} {ra rb : Res Bool} (ha : EvR ρ fa ra Tr) (hb : EvR ρ fb rb Tr) : EvR ρ (bAnd fa fb) (ra.bind fun b => if b = true then rb else .ok false) Tr := fun e l =>
  (ha e l).bind fun a b h => by
    rw [show b = a from h]
    cases a
    · exact ⟨false, rfl, rfl⟩
    · exact hb e l
theorem b_or {fa fb : DL.Env → Res Bool} {ra rb : Res Bool} (ha : EvR ρ fa ra Tr) (hb : EvR ρ fb rb Tr) : EvR ρ (bOr fa fb) (ra.bind fun b => if b = true then .ok true else rb) Tr := fun e l =>
  (ha e l).bind fun a b h => by
    rw [show b = a from h]
    cases a
    · exact hb e l
    · exact ⟨true, rfl, rfl⟩
theorem b_not {fa : DL.Env → Res Bool} {ra : Res Bool} (ha : EvR ρ fa ra Tr) : EvR ρ (bNot fa) (ra.bind fun b => .ok (!b)) Tr := fun e l =>
  (ha e l).bind fun a b h => by rw [show b = a from h]; exact ⟨_, rfl, rfl⟩
/-! values of and, or, not -/
theorem v_and {fa fb : DL.Env → Res D} {ra rb : Res Bool} (ha : EvR ρ fa ra eB) (hb : EvR ρ fb rb eB) : EvR ρ (eAnd fa fb) (ra.bind fun b => if b = true then rb else .ok false) eB := fun e l =>
  (ha e l).bind fun a b h => by
    rw [show b = _ from h]
    cases a
    · exact ⟨_, rfl, rfl⟩
    · exact hb e l
theorem v_not {fa : DL.Env → Res D} {ra : Res Bool} (ha : EvR ρ fa ra eB) : EvR ρ (eNot fa) (ra.bind fun b => .ok (!b)) eB := fun e l =>
  (ha e l).bind fun a b h => by rw [show b = _ from h]; exact ⟨_, rfl, rfl⟩
end
end DL

/-! Typed readings: statements, loops, defs. -/
namespace DL
open PySem PySem.Spec PyProof.Rows L2
open PySem.Builtin.Int (intBits)

/-- how a turn of a loop ends -/
inductive Oc (S R : Type) where
  | nx (s : S)
  | bk (s : S)
  | rt (v : R)

/-- what a block does, told by r; P: what an end means -/
def JM {T : Type} (r : Res T) (P : T → Out → Prop) (o : Out) : Prop := match r with
  | .ok t => P t o
  | .exc c fs => ∃ e', o = .ex c fs e'
  | .bad => True
def J {T : Type} (ρ : KEnv) (b : DL.Env → Out) (r : Res T) (P : T → Out → Prop) : Prop := ∀ e, Le ρ e → JM r P (b e)
/-- a def's end -/
def PT {R : Type} (E : RE R) : R → Out → Prop := fun v o => ∃ d, E v d ∧ (o = .rt d ∨ o = .ro d ∨ ((∃ e, o = .nx e) ∧ d = .non))
/-- on to the next -/
def PN {S : Type} (ρ : S → KEnv) : S → Out → Prop := fun s o => ∃ e, o = .nx e ∧ Le (ρ s) e
def PL {S R : Type} (ρ : S → KEnv) (E : RE R) : Oc S R → Out → Prop := fun t o => match t with
  | .nx s => ∃ e, (o = .nx e ∨ o = .ct e) ∧ Le (ρ s) e
  | .bk s => ∃ e, o = .bk e ∧ Le (ρ s) e
  | .rt v => ∃ d, E v d ∧ (o = .rt d ∨ o = .ro d)
/-- a loop's end -/
def PX {S R : Type} (ρ : S → KEnv) (E : RE R) : Oc S R → Out → Prop := fun t o => match t with
  | .nx s => ∃ e, o = .nx e ∧ Le (ρ s) e
  | .bk _ => False
  | .rt v => ∃ d, E v d ∧ (o = .rt d ∨ o = .ro d)
section
variable {T S R α β : Type} {ρ ρ' : KEnv} {a b c : DL.Env → Out} {r : Res T} {P : T → Out → Prop}
theorem j_do {s : Res S} {ρs : S → KEnv} {k : S → Res T} (h : J ρ a s (PN ρs)) (q : ∀ x, J (ρs x) b (k x) P) : J ρ (sSeq a b) (s.bind k) P := fun e l => by
  have := h e l
  cases s with
  | ok x =>
    obtain ⟨e', h1, h2⟩ := this
    have : sSeq a b e = b e' := by unfold sSeq; rw [h1]
    rw [this]
    exact q x e' h2
  | exc cc fs => obtain ⟨e', h1⟩ := this; exact ⟨e', by unfold sSeq; rw [h1]⟩
  | bad => trivial
theorem j_assoc (h : J ρ (sSeq a (sSeq b c)) r P) : J ρ (sSeq (sSeq a b) c) r P := fun e l => by
  have : sSeq (sSeq a b) c e = sSeq a (sSeq b c) e := by unfold sSeq; cases a e <;> rfl
  rw [this]
  exact h e l
theorem j_skip (h : J ρ b r P) : J ρ (sSeq sSkip b) r P := fun e l => h e l
theorem j_if {al : List Nat} {ft : DL.Env → Res Bool} {rt : Res Bool} {ra rb : Res T} (hc : EvR ρ ft rt Tr) (ha : J (fzK al ρ) a ra P) (hb : J (fzK al ρ) b rb P) : J ρ (sIf al ft a b) (rt.bind fun z => if z = true then ra else rb) P := fun e l => by
  have := hc e l
  have f := l.fz al
  cases rt with
  | ok z =>
    obtain ⟨y, h1, h2⟩ := this
    have q : sIf al ft a b e = if y = true then a (fz al e) else b (fz al e) := by rw [sIf_app, h1]
    rw [q, show y = z from h2]
    cases z
    · exact hb _ f
    · exact ha _ f
  | exc cc fs => exact ⟨_, by rw [sIf_app, show ft e = _ from this]⟩
  | bad => trivial
theorem j_ifP {al : List Nat} {ft : DL.Env → Res Bool} {p : Prop} [Decidable p] {ra rb : Res T} (hc : EvR ρ ft (.ok (decide p)) Tr) (ha : J (fzK al ρ) a ra P) (hb : J (fzK al ρ) b rb P) : J ρ (sIf al ft a b) (if p then ra else rb) P := by
  have := j_if hc ha hb
  by_cases h : p
  · rw [if_pos h]; simpa [h] using this
  · rw [if_neg h]; simpa [h] using this
theorem seq_if (al : List Nat) (ft : DL.Env → Res Bool) : sSeq (sIf al ft a b) c = sIf al ft (sSeq a c) (sSeq b c) := by
  funext e
  rw [sSeq_app, sIf_app, sIf_app]
  cases ft e with
  | ok z => cases z <;> rfl
  | exc cc fs => rfl
  | bad => rfl
theorem j_ifs {al : List Nat} {ft : DL.Env → Res Bool} {rt : Res Bool} {ra rb : Res T} (hc : EvR ρ ft rt Tr) (ha : J (fzK al ρ) (sSeq a c) ra P) (hb : J (fzK al ρ) (sSeq b c) rb P) : J ρ (sSeq (sIf al ft a b) c) (rt.bind fun z => if z = true then ra else rb) P := by
  rw [seq_if]; exact j_if hc ha hb
theorem j_ifsP {al : List Nat} {ft : DL.Env → Res Bool} {p : Prop} [Decidable p] {ra rb : Res T} (hc : EvR ρ ft (.ok (decide p)) Tr) (ha : J (fzK al ρ) (sSeq a c) ra P) (hb : J (fzK al ρ) (sSeq b c) rb P) : J ρ (sSeq (sIf al ft a b) c) (if p then ra else rb) P := by
  rw [seq_if]; exact j_ifP hc ha hb
/-! ends -/
theorem j_ret {al : List Nat} {f : DL.Env → Res D} {x : Res R} {E : RE R} {g : R → T} (hP : ∀ v d, E v d → P (g v) (.rt d)) (h : EvR ρ f x E) : J ρ (sSeq (sRet al f) c) (x.bind fun v => .ok (g v)) P := fun e l => by
  have := h e l
  cases x with
  | ok v => obtain ⟨d, h1, h2⟩ := this; show P (g v) _; rw [sSeq_app, sRet_app, h1]; exact hP v d h2
  | exc cc fs => exact ⟨_, by rw [sSeq_app, sRet_app, show f e = _ from this]⟩
  | bad => trivial
theorem j_retT {al : List Nat} {f : DL.Env → Res D} {x : Res R} {E : RE R} (h : EvR ρ f x E) : J ρ (sSeq (sRet al f) c) x (PT E) := by
  have := j_ret (ρ := ρ) (c := c) (al := al) (g := fun v => v) (P := PT E) (fun v d hd => ⟨d, hd, .inl rfl⟩) h
  cases x <;> exact this
theorem j_retL {al : List Nat} {f : DL.Env → Res D} {x : Res R} {E : RE R} {ρs : S → KEnv} (h : EvR ρ f x E) : J ρ (sSeq (sRet al f) c) (x.bind fun v => .ok (.rt v)) (PL ρs E) := j_ret (fun v d hd => ⟨d, hd, .inl rfl⟩) h
theorem j_endL {ρs : S → KEnv} {E : RE R} {s : S} (h : Sb (ρs s) ρ) : J ρ sSkip (.ok (.nx s)) (PL ρs E) := fun e l => ⟨e, .inl rfl, l.less h⟩
/-- a loop that may return, and what comes behind it -/
def thenX (s : Res (Oc S R)) (m : R → T) (k : S → Res T) : Res T := s.bind fun o => match o with
  | .nx x => k x
  | .rt v => .ok (m v)
  | .bk _ => .bad
theorem j_x {s : Res (Oc S R)} {E : RE R} {ρs : S → KEnv} {k : S → Res T} {m : R → T} (hP : ∀ v d o, E v d → (o = .rt d ∨ o = .ro d) → P (m v) o) (h : J ρ a s (PX ρs E)) (q : ∀ x, J (ρs x) b (k x) P) : J ρ (sSeq a b) (thenX s m k) P := fun e l => by
  have := h e l
  unfold thenX
  cases s with
  | ok x =>
    cases x with
    | nx x =>
      obtain ⟨e', h1, h2⟩ := this
      have : sSeq a b e = b e' := by unfold sSeq; rw [h1]
      show JM (k x) P (sSeq a b e)
      rw [this]
      exact q x e' h2
    | rt v =>
      obtain ⟨d, h1, h2⟩ := this
      show P (m v) (sSeq a b e)
      have : sSeq a b e = a e := by unfold sSeq; rcases h2 with h2 | h2 <;> rw [h2]
      rw [this]
      exact hP v d _ h1 h2
    | bk x => exact this.elim
  | exc cc fs => obtain ⟨e', h1⟩ := this; exact ⟨e', by unfold sSeq; rw [h1]⟩
  | bad => trivial
theorem j_xT {s : Res (Oc S R)} {E : RE R} {ρs : S → KEnv} {k : S → Res R} (h : J ρ a s (PX ρs E)) (q : ∀ x, J (ρs x) b (k x) (PT E)) : J ρ (sSeq a b) (thenX s (fun v => v) k) (PT E) :=
  j_x (fun v d o hd ho => ⟨d, hd, ho.imp (fun z => z) .inl⟩) h q
/-! simple statements -/
theorem d_set {al : List Nat} {i : Nat} {f : DL.Env → Res D} {E : RE α} {x : Res α} (h : EvR ρ f x E) : J ρ (sSet al i f) x (PN fun v => (fzK al ρ).set i (some (sh E v))) := fun e l => by
  have := h e l
  cases x with
  | ok v => obtain ⟨d, h1, h2⟩ := this; exact ⟨_, by rw [sSet_app, h1], (l.fz al).set i ⟨h2, rfl⟩⟩
  | exc cc fs => exact ⟨_, by rw [sSet_app, show f e = _ from this]⟩
  | bad => trivial
/-- a pattern takes what is read as E, the names known as ρ then as ρ' -/
def BindR (p : Pat) (E : RE α) (x : α) (ρ ρ' : KEnv) : Prop := ∀ d e, E x d → Le ρ e → ∃ e', p.bind d e = .ok e' ∧ Le ρ' e'
theorem p_nm {i : Nat} {E : RE α} {x : α} : BindR (.nm i) E x ρ (ρ.set i (some (sh E x))) := fun d e h l => ⟨_, rfl, l.set i ⟨h, rfl⟩⟩
/-- tuples made of items (never a module's constant) -/
def eQ {α : Type} (Q : α → List D → Prop) : RE α := fun a d => ∃ ds, d = .tup ds ∧ Q a ds
/-! ### loops -/
def forX {α S R : Type} : List α → S → (α → S → Res (Oc S R)) → Res (Oc S R)
  | [], s, _ => .ok (.nx s)
  | a :: l, s, f => (f a s).bind fun o => match o with
    | .nx s' => forX l s' f
    | .bk s' => .ok (.nx s')
    | .rt v => .ok (.rt v)
theorem turns_X {p : Pat} {E : RE α} {E' : RE R} {ρs : S → KEnv} {ρb : α → S → KEnv} {f : α → S → Res (Oc S R)} (hp : ∀ x s, BindR p E x (ρs s) (ρb x s)) (hb : ∀ x s, J (ρb x s) b (f x s) (PL ρs E')) :
    ∀ {l : List α} {ds : List D} {s : S} {e : DL.Env}, A2 E l ds → Le (ρs s) e → JM (forX l s f) (PX ρs E') (turns p b ds e)
  | [], ds, s, e, h, l => by rw [show ds = [] from h]; exact ⟨e, rfl, l⟩
  | x :: xs, _, s, e, ⟨d, r, rfl, h1, h2⟩, l => by
    obtain ⟨e1, a1, a2⟩ := hp x s d e h1 l
    have := hb x s e1 a2
    unfold forX turns
    rw [a1]
    cases q : f x s with
    | ok o =>
      rw [q] at this
      cases o with
      | nx s' =>
        obtain ⟨e2, b1, b2⟩ := this
        have ih := turns_X hp hb (s := s') h2 b2
        rw [Res.bind_ok]
        rcases b1 with b1 | b1 <;> (dsimp only; rw [b1]; exact ih)
      | bk s' =>
        obtain ⟨e2, b1, b2⟩ := this
        rw [Res.bind_ok]
        dsimp only
        rw [b1]
        exact ⟨e2, rfl, b2⟩
      | rt v =>
        obtain ⟨d, b1, b2⟩ := this
        rw [Res.bind_ok]
        dsimp only
        rcases b2 with b2 | b2 <;> rw [b2]
        · exact ⟨d, b1, .inl rfl⟩
        · exact ⟨d, b1, .inr rfl⟩
    | exc c fs => rw [q] at this; obtain ⟨e2, b1⟩ := this; exact ⟨e2, by dsimp only; rw [b1]⟩
    | bad => trivial
theorem d_forX {al : List Nat} {p : Pat} {fi : DL.Env → Res (List D)} {E : RE α} {E' : RE R} {xs : Res (List α)} {ρs : S → KEnv} {ρb : α → S → KEnv} {f : α → S → Res (Oc S R)} {s : S}
    (hi : EvR ρ fi xs (A2 E)) (h0 : Sb (ρs s) (fzK al ρ)) (hp : ∀ x s, BindR p E x (ρs s) (ρb x s)) (hb : ∀ x s, J (ρb x s) b (f x s) (PL ρs E')) : J ρ (sFor al p fi b) (xs.bind fun l => forX l s f) (PX ρs E') := fun e l => by
  have := hi e l
  cases xs with
  | ok xs =>
    obtain ⟨ds, h1, h2⟩ := this
    have t := turns_X hp hb h2 ((l.fz al).less h0)
    rw [sFor_app, h1]
    exact t
  | exc c fs => exact ⟨_, by rw [sFor_app, show fi e = _ from this]⟩
  | bad => trivial
/-! while -/
/-! ### comprehensions -/
/-- so long that a list of them can be made -/
def Fits (n : Nat) : Prop := n ≤ sizeLine
def mapR {α β : Type} : List α → (α → Res β) → Res (List β)
  | [], _ => .ok []
  | a :: l, f => (f a).bind fun y => (mapR l f).bind fun ys => .ok (y :: ys)
def filR {α β : Type} : List α → (α → Res Bool) → (α → Res β) → Res (List β)
  | [], _, _ => .ok []
  | a :: l, c, f => (c a).bind fun z => if z = true then (f a).bind fun y => (filR l c f).bind fun ys => .ok (y :: ys) else filR l c f
/-- errors within a comprehension are not told -/
def Res.noX {α : Type} : Res α → Res α
  | .exc _ _ => .bad
  | r => r
open Classical in
noncomputable def compR {α β : Type} (l : List α) (f : α → Res β) : Res (List β) := if Fits l.length then (mapR l f).noX else .bad
open Classical in
noncomputable def compF {α β : Type} (l : List α) (c : α → Res Bool) (f : α → Res β) : Res (List β) := if Fits l.length then (filR l c f).noX else .bad
theorem compL_R {p : Pat} {ft : DL.Env → Res Bool} {fe : DL.Env → Res D} {E : RE α} {E' : RE β} {ρ : KEnv} {ρb : α → KEnv} {c : α → Res Bool} {f : α → Res β} (hp : ∀ x, BindR p E x ρ (ρb x)) (hc : ∀ x, EvR (ρb x) ft (c x) Tr) (he : ∀ x, EvR (ρb x) fe (f x) E') :
    ∀ {l : List α} {ds : List D} {e : DL.Env} {ys : List β}, A2 E l ds → Le ρ e → filR l c f = .ok ys → ∃ es, compL e p ft fe ds = .ok es ∧ A2 E' ys es
  | [], ds, e, ys, h, l, q => by
    rw [show ds = [] from h]
    cases (show Res.ok [] = Res.ok ys from q)
    exact ⟨[], rfl, rfl⟩
  | x :: xs, _, e, ys, ⟨d, r, rfl, h1, h2⟩, l, q => by
    obtain ⟨e1, a1, a2⟩ := hp x d e h1 l
    have b1 := hc x e1 a2
    unfold filR at q
    unfold compL
    rw [a1]
    cases hz : c x with
    | ok z =>
      rw [hz, Res.bind_ok] at q
      rw [hz] at b1
      obtain ⟨z', c1, c2⟩ := b1
      dsimp only
      rw [c1, show z' = z from c2]
      cases z with
      | false =>
        rw [if_neg (by simp)] at q
        exact compL_R hp hc he h2 l q
      | true =>
        rw [if_pos rfl] at q
        have b2 := he x e1 a2
        cases hy : f x with
        | ok y =>
          rw [hy, Res.bind_ok] at q
          rw [hy] at b2
          obtain ⟨y', d1, d2⟩ := b2
          cases hr : filR xs c f with
          | ok zs =>
            rw [hr, Res.bind_ok] at q
            cases q
            obtain ⟨es, f1, f2⟩ := compL_R hp hc he h2 l hr
            exact ⟨y' :: es, by dsimp only; rw [d1]; dsimp only; rw [f1]; rfl, y', es, rfl, d2, f2⟩
          | exc cc fs => rw [hr] at q; cases q
          | bad => rw [hr] at q; cases q
        | exc cc fs => rw [hy] at q; cases q
        | bad => rw [hy] at q; cases q
    | exc cc fs => rw [hz] at q; cases q
    | bad => rw [hz] at q; cases q
theorem filR_yes (f : α → Res β) : ∀ l : List α, filR l (fun _ => .ok true) f = mapR l f
  | [] => rfl
  | a :: l => by
    unfold filR mapR
    rw [Res.bind_ok, if_pos rfl, filR_yes f l]
theorem v_compF {own : List Nat} {p : Pat} {fi : DL.Env → Res (List D)} {ft : DL.Env → Res Bool} {fe : DL.Env → Res D} {E : RE α} {E' : RE β} {xs : Res (List α)} {ρb : α → KEnv} {c : α → Res Bool} {f : α → Res β} (hi : EvR ρ fi xs (A2 E))
    (hp : ∀ x, BindR p E x (wipeK ρ own) (ρb x)) (hc : ∀ x, EvR (ρb x) ft (c x) Tr) (he : ∀ x, EvR (ρb x) fe (f x) E') : EvR ρ (eComp own p fi ft fe) (xs.bind fun l => compF l c f) (eL E') := fun e l => by
  unfold eComp
  refine (hi e l).bind fun xs ds h => ?_
  unfold compF
  by_cases hl : Fits xs.length
  · rw [if_pos hl]
    cases q : filR xs c f with
    | ok ys =>
      obtain ⟨es, h1, h2⟩ := compL_R hp hc he h (l.wipe own) q
      rw [if_pos (by rw [A2.length h]; exact hl), h1]
      exact ⟨_, rfl, es, rfl, h2⟩
    | exc cc fs => trivial
    | bad => trivial
  · rw [if_neg hl]; trivial
theorem v_comp {own : List Nat} {p : Pat} {fi : DL.Env → Res (List D)} {fe : DL.Env → Res D} {E : RE α} {E' : RE β} {xs : Res (List α)} {ρb : α → KEnv} {f : α → Res β} (hi : EvR ρ fi xs (A2 E))
    (hp : ∀ x, BindR p E x (wipeK ρ own) (ρb x)) (he : ∀ x, EvR (ρb x) fe (f x) E') : EvR ρ (eComp own p fi bYes fe) (xs.bind fun l => compR l f) (eL E') := by
  have := v_compF (c := fun _ => .ok true) hi hp (fun x e l => ⟨true, rfl, rfl⟩) he
  have q : (fun l => compF l (fun _ => .ok true) f) = fun l => compR l f := by
    funext l
    unfold compF compR
    rw [filR_yes]
  rw [q] at this
  exact this
/-! ### defs -/
theorem Le.rep : ∀ n, Le (List.replicate n none) (List.replicate n none)
  | 0 => rfl
  | n + 1 => ⟨none, List.replicate n none, rfl, fun P h => (by cases h), Le.rep n⟩
def LeA (ds : List D) (ρ : KEnv) : Prop := A2 (fun (r : Option Kn) (d : D) => ∀ P, r = some P → P d false) ρ ds
theorem LeA.nil : LeA [] [] := rfl
theorem LeA.cons {E : RE α} {x : α} {d : D} {ds : List D} {ρ : KEnv} (h : E x d) (t : LeA ds ρ) : LeA (d :: ds) (some (sh E x) :: ρ) := ⟨d, ds, rfl, fun P hP => by cases hP; exact ⟨h, rfl⟩, t⟩
theorem LeA.le : ∀ {ds : List D} {ρ : KEnv} {n : Nat}, LeA ds ρ → Le (ρ ++ List.replicate n none) (ds.map (fun d => some (d, false)) ++ List.replicate n none)
  | ds, [], n, h => by rw [show ds = [] from h]; exact Le.rep n
  | _, r :: ρ, n, ⟨d, ds, rfl, h, t⟩ => ⟨some (d, false), _, rfl, fun P hP => ⟨d, false, rfl, h P hP⟩, LeA.le t⟩
theorem r_def {n m k : Nat} {fb : DL.Env → Out} {ds : List D} {x : Res R} {E : RE R} (h : LeA ds ρ) (hk : m - n = k) (j : J (ρ ++ List.replicate k none) fb x (PT E)) : Rf (runDef n m fb ds) x E := by
  subst hk
  have := j _ h.le
  unfold runDef env0
  cases x with
  | ok v =>
    obtain ⟨d, h1, h2⟩ := this
    rcases h2 with h2 | h2 | ⟨⟨e, h2⟩, h3⟩
    · rw [h2]; exact ⟨d, rfl, h1⟩
    · rw [h2]; exact ⟨d, rfl, h1⟩
    · rw [h2]; subst h3; exact ⟨_, rfl, h1⟩
  | exc c fs => obtain ⟨e', h2⟩ := this; rw [h2]; rfl
  | bad => trivial
end
end DL

/-! Typed readings: the operations. -/
namespace DL
open PySem PySem.Spec PyProof.Rows L2
open PySem.Builtin.Int (intBits)

/-! ### whole numbers -/
open Classical in
noncomputable def modR (i j : Int) : Res Int := if j ≠ 0 then .ok (i.fmod j) else .bad
theorem modR_pos {i j : Int} (h : 0 < j) : modR i j = .ok (i % j) := by
  unfold modR
  rw [if_pos (by omega), Int.fmod_eq_emod_of_nonneg _ (by omega)]
section
variable {α β γ : Type}
theorem o_add (a b : Int) : ∀ x y, eI a x → eI b y → Rf (dAdd x y) (.ok (a + b)) eI := by rintro _ _ rfl rfl; exact ⟨_, rfl, rfl⟩
theorem o_sub (a b : Int) : ∀ x y, eI a x → eI b y → Rf (dSub x y) (.ok (a - b)) eI := by rintro _ _ rfl rfl; exact ⟨_, rfl, rfl⟩
theorem o_mod (a b : Int) : ∀ x y, eI a x → eI b y → Rf (dMod x y) (modR a b) eI := by
  rintro _ _ rfl rfl
  unfold modR
  by_cases h : b ≠ 0
  · rw [if_pos h]; exact ⟨_, if_pos h, rfl⟩
  · rw [if_neg h]; trivial
/-- by a written number above nought -/
theorem o_divL {b : Int} (a : Int) (h : 0 < b) (k : b < 18446744073709551616) : ∀ x y, eI a x → eI b y → Rf (dDiv x y) (.ok (a / b)) eI := by
  rintro _ _ rfl rfl; exact ⟨_, dDiv_lit _ _ h k, rfl⟩
theorem o_modL {b : Int} (a : Int) (h : 0 < b) : ∀ x y, eI a x → eI b y → Rf (dMod x y) (.ok (a % b)) eI := by
  rintro _ _ rfl rfl; exact ⟨_, dMod_lit _ _ h, rfl⟩
theorem o_powL {a b c : Int} (h : dPow (.int a) (.int b) = .ok (.int c)) : ∀ x y, eI a x → eI b y → Rf (dPow x y) (.ok c) eI := by
  rintro _ _ rfl rfl; exact ⟨_, h, rfl⟩
/-! ### equality -/
structure EqE {α : Type} [DecidableEq α] (E : RE α) (n : Nat) : Prop where
  pl : ∀ a d, E a d → d.pl n = true
  beq : ∀ a b x y, E a x → E b y → PyData.eqv x.py y.py = decide (a = b)
structure EqQ {α : Type} [DecidableEq α] (Q : α → List D → Prop) (n : Nat) : Prop where
  pl : ∀ a d, Q a d → D.pls d n = true
  beq : ∀ a b x y, Q a x → Q b y → PyData.eqvAll (D.pys x) (D.pys y) = decide (a = b)
theorem EqE.int (n : Nat) : EqE eI n := ⟨by rintro a _ rfl; rfl, by
  rintro a b _ _ rfl rfl
  simp [D.py, PyData.eqv]
  exact Bool.eq_iff_iff.mpr (by simp)⟩
theorem EqE.bl (n : Nat) : EqE eB n := ⟨by rintro a _ rfl; rfl, by
  rintro a b _ _ rfl rfl
  cases a <;> cases b <;> rfl⟩
theorem EqE.row (n : Nat) : EqE eR (n + 1) := ⟨by rintro a _ rfl; exact ans_pl a n, by rintro a b _ _ rfl rfl; exact beq_ans a b⟩
theorem a2_pls [DecidableEq α] {E : RE α} {n : Nat} (h : EqE E n) : ∀ {l : List α} {ds : List D}, A2 E l ds → D.pls ds n = true
  | [], _, e => by rw [show _ = [] from e]; rfl
  | a :: l, _, ⟨d, r, rfl, x, y⟩ => by rw [D.pls, h.pl a d x, a2_pls h y]; rfl
theorem a2_eqvs [DecidableEq α] {E : RE α} {n : Nat} (h : EqE E n) : ∀ {l l' : List α} {ds es : List D}, A2 E l ds → A2 E l' es → PyData.eqvAll (D.pys ds) (D.pys es) = decide (l = l')
  | [], [], _, _, e, f => by rw [show _ = [] from e, show _ = [] from f]; simp [D.pys, PyData.eqvAll]
  | [], _ :: _, _, _, e, ⟨d, r, rfl, _, _⟩ => by rw [show _ = [] from e]; simp [D.pys, PyData.eqvAll]
  | _ :: _, [], _, _, ⟨d, r, rfl, _, _⟩, f => by rw [show _ = [] from f]; simp [D.pys, PyData.eqvAll]
  | a :: l, b :: l', _, _, ⟨d, r, rfl, x1, x2⟩, ⟨d', r', rfl, y1, y2⟩ => by
    simp only [D.pys, PyData.eqvAll, h.beq a b d d' x1 y1, a2_eqvs h x2 y2]
    by_cases h1 : a = b <;> by_cases h2 : l = l' <;> simp [h1, h2]
theorem EqE.lst [DecidableEq α] {E : RE α} {n : Nat} (h : EqE E n) : EqE (eL E) (n + 1) := ⟨by
  rintro a _ ⟨ds, rfl, r⟩; exact a2_pls h r, by
  rintro a b _ _ ⟨ds, rfl, r⟩ ⟨es, rfl, s⟩
  rw [D.py, D.py, PyData.eqv]; exact a2_eqvs h r s⟩
theorem EqE.tup [DecidableEq α] {E : RE α} {n : Nat} (h : EqE E n) : EqE (eT E) (n + 1) := ⟨by
  rintro a _ ⟨ds, rfl, r⟩; exact a2_pls h r, by
  rintro a b _ _ ⟨ds, rfl, r⟩ ⟨es, rfl, s⟩
  rw [D.py, D.py, PyData.eqv]; exact a2_eqvs h r s⟩
theorem EqQ.c [DecidableEq α] [DecidableEq β] {E : RE α} {Q : β → List D → Prop} {n : Nat} (h : EqE E n) (k : EqQ Q n) : EqQ (qC E Q) n := ⟨by
  rintro a _ ⟨d, r, rfl, h1, h2⟩; simp [D.pls, h.pl _ d h1, k.pl _ r h2], by
  rintro a b _ _ ⟨d, r, rfl, h1, h2⟩ ⟨d', r', rfl, h3, h4⟩
  simp only [D.pys, PyData.eqvAll, h.beq _ _ d d' h1 h3, k.beq _ _ r r' h2 h4]
  obtain ⟨a1, a2⟩ := a
  obtain ⟨b1, b2⟩ := b
  by_cases h1 : a1 = b1 <;> by_cases h2 : a2 = b2 <;> simp [h1, h2]⟩
theorem dEq_of {x y : D} {b : Bool} (h : x.pl 60 = true) (k : y.pl 60 = true) (e : PyData.eqv x.py y.py = b) : dEq x y = .ok (.bl b) := by
  cases x with
  | str s =>
    cases y with
    | str t =>
      subst e
      simp [dEq, D.py, PyData.eqv]
      exact Bool.eq_iff_iff.mpr (by simp)
    | _ => simp only [dEq]; rw [if_pos ⟨h, k⟩, D.beq, e]
  | _ => simp only [dEq]; rw [if_pos ⟨h, k⟩, D.beq, e]
theorem dNe_of {x y : D} {b : Bool} (h : x.pl 60 = true) (k : y.pl 60 = true) (e : PyData.eqv x.py y.py = b) : dNe x y = .ok (.bl (!b)) := by
  cases x with
  | str s =>
    cases y with
    | str t =>
      subst e
      simp [dNe, D.py, PyData.eqv]
      exact Bool.eq_iff_iff.mpr (by simp)
    | _ => simp only [dNe]; rw [if_pos ⟨h, k⟩, D.beq, e]
  | _ => simp only [dNe]; rw [if_pos ⟨h, k⟩, D.beq, e]
theorem o_eq [DecidableEq α] {E : RE α} (h : EqE E 60) (a b : α) : ∀ x y, E a x → E b y → Rf (dEq x y) (.ok (decide (a = b))) eB := fun x y hx hy =>
  ⟨_, dEq_of (h.pl a x hx) (h.pl b y hy) (h.beq a b x y hx hy), rfl⟩
theorem o_ne [DecidableEq α] {E : RE α} (h : EqE E 60) (a b : α) : ∀ x y, E a x → E b y → Rf (dNe x y) (.ok (decide (a ≠ b))) eB := fun x y hx hy =>
  ⟨_, dNe_of (h.pl a x hx) (h.pl b y hy) (h.beq a b x y hx hy), by simp [eB]⟩
/-! ### raw data -/
def rawB (r : Res D) : Res Bool := r.bind D.asB
theorem rf_rawB (r : Res D) : Rf r (rawB r) eB := by
  unfold rawB
  cases r with
  | ok d =>
    cases d with
    | bl b => exact ⟨_, rfl, rfl⟩
    | _ => trivial
  | exc c fs => rfl
  | bad => trivial
theorem o_rawB (g : D → D → Res D) (a b : D) : ∀ x y, eD a x → eD b y → Rf (g x y) (rawB (g a b)) eB := by
  rintro _ _ rfl rfl
  exact rf_rawB _
theorem o_raw1B (g : D → Res D) (a : D) : ∀ x, eD a x → Rf (g x) (rawB (g a)) eB := by
  rintro _ rfl
  exact rf_rawB _
def asIs : List D → Res (List Int)
  | [] => .ok []
  | .int i :: r => (asIs r).bind fun l => .ok (i :: l)
  | _ => .bad
def D.asR : D → Res (List Int)
  | .tup xs => asIs xs
  | _ => .bad
@[simp] theorem asIs_ints : ∀ l : List Int, asIs (l.map D.int) = .ok l
  | [] => rfl
  | i :: l => by rw [List.map_cons, asIs, asIs_ints l]; rfl
@[simp] theorem asR_ans (l : List Int) : D.asR (ans l) = .ok l := asIs_ints l
section
variable {ρ : KEnv} {f : DL.Env → Res D} {r : Res D}
end
/-! ### lists and tuples -/
def getL {α : Type} (l : List α) (i : Int) : Res α := match atI l i with
  | some a => .ok a
  | none => .bad
theorem atI_A2 {E : RE α} {l : List α} {ds : List D} (h : A2 E l ds) {i : Int} {a : α} (q : atI l i = some a) : ∃ d, atI ds i = some d ∧ E a d := by
  unfold atI at q ⊢
  rw [h.length]
  cases k : ixN l.length i with
  | none => rw [k] at q; cases q
  | some j => rw [k] at q; exact h.get q
theorem o_ixA {x : D} (h : ∀ t kvs, x ≠ .dct t kvs) (y : D) : dIxA x y = dIx x y := by
  unfold dIxA
  cases x with
  | dct t kvs => exact absurd rfl (h t kvs)
  | _ => rfl
theorem o_ixL {E : RE α} (l : List α) (i : Int) : ∀ x y, eL E l x → eI i y → Rf (dIx x y) (getL l i) E := by
  rintro _ _ ⟨ds, rfl, r⟩ rfl
  unfold getL
  cases q : atI l i with
  | none => trivial
  | some a => obtain ⟨d, h1, h2⟩ := atI_A2 r q; exact ⟨d, by simp [dIx, h1], h2⟩
theorem o_ixAL {E : RE α} (l : List α) (i : Int) : ∀ x y, eL E l x → eI i y → Rf (dIxA x y) (getL l i) E := fun x y h k => by
  rw [o_ixA (by obtain ⟨ds, rfl, r⟩ := h; intros; simp)]
  exact o_ixL l i x y h k
@[simp] theorem getL_zero (a : α) (l : List α) : getL (a :: l) 0 = .ok a := by simp [getL, atI, ixN]
/-- some item stands at every place, told from either end -/
theorem getL_mem {l : List α} {i : Int} (h : -(l.length : Int) ≤ i) (k : i < l.length) : ∃ a ∈ l, getL l i = .ok a := by
  obtain ⟨j, a, b⟩ := ixN_of h k
  exact ⟨l[j], List.getElem_mem _, by simp [getL, atI, a, b]⟩
theorem r_t (a : List Int) : ∀ d, eR a d → eT eI a d := fun d h => ⟨_, h, A2.fn.mpr rfl⟩
theorem t_r (a : List Int) : ∀ d, eT eI a d → eR a d := fun d ⟨ds, h, r⟩ => by rw [h, A2.fn.mp r]; rfl
theorem o_lenL {E : RE α} (l : List α) : ∀ x, eL E l x → Rf (dLen x) (.ok (l.length : Int)) eI := by rintro _ ⟨ds, rfl, r⟩; exact ⟨_, rfl, by rw [← r.length]; rfl⟩
open Classical in
noncomputable def catR {α : Type} (a b : List α) : Res (List α) := if Fits (a.length + b.length) then .ok (a ++ b) else .bad
theorem rf_cat {E : RE α} {a b : List α} {ds es : List D} (h : A2 E a ds) (k : A2 E b es) {x : Res D} {C : List D → D} (hx : ds.length + es.length ≤ sizeLine → x = .ok (C (ds ++ es))) {E' : RE (List α)} (hc : ∀ l ds, A2 E l ds → E' l (C ds)) : Rf x (catR a b) E' := by
  unfold catR
  by_cases q : Fits (a.length + b.length)
  · rw [if_pos q]; exact ⟨_, hx (by rw [h.length, k.length]; exact q), hc _ _ (h.append k)⟩
  · rw [if_neg q]; trivial
theorem o_catL {E : RE α} (a b : List α) : ∀ x y, eL E a x → eL E b y → Rf (dAdd x y) (catR a b) (eL E) := by rintro _ _ ⟨ds, rfl, r⟩ ⟨es, rfl, s⟩; exact rf_cat (C := D.lst) r s (fun h => if_pos h) fun l ds h => ⟨ds, rfl, h⟩
theorem catR_ok {a b : List α} (h : a.length + b.length ≤ 10000000) : catR a b = .ok (a ++ b) := if_pos (show _ ≤ sizeLine by rw [PySem.sizeLine_eq]; omega)
section
variable {ρ : KEnv} {f g : DL.Env → Res D}
/-! slices -/
theorem cutL_A2 {E : RE α} {l : List α} {ds : List D} (h : A2 E l ds) (lo hi : Option Int) : A2 E (cutL l lo hi) (cutL ds lo hi) := by
  unfold cutL
  rw [h.length]
  exact (h.drop _).take _
def Eqv {α : Type} : α → α → Prop := fun a b => b = a
theorem vo_n : EvR ρ oNone (.ok none) Eqv := fun e l => ⟨none, rfl, rfl⟩
theorem vo_s {i : Int} (h : EvR ρ f (.ok i) eI) : EvR ρ (oSome f) (.ok (some i)) Eqv := fun e l => by
  obtain ⟨d, h1, h2⟩ := h e l
  exact ⟨some i, by rw [oSome_app, h1, show d = _ from h2]; rfl, rfl⟩
variable {fl fh : DL.Env → Res (Option Int)} {lo hi : Option Int}
theorem v_cutT {E : RE α} {r : Res (List α)} (h : EvR ρ f r (eT E)) (hl : EvR ρ fl (.ok lo) Eqv) (hh : EvR ρ fh (.ok hi) Eqv) : EvR ρ (eCut f fl fh) (r.bind fun l => .ok (cutL l lo hi)) (eT E) := fun e l => by
  rw [eCut_app]
  refine (h e l).bind fun xs d ⟨ds, h1, h2⟩ => ?_
  obtain ⟨_, a1, rfl⟩ := hl e l
  obtain ⟨_, b1, rfl⟩ := hh e l
  rw [a1, b1, h1]
  exact ⟨_, rfl, _, rfl, cutL_A2 h2 _ _⟩
theorem v_cutR {r : Res (List Int)} (h : EvR ρ f r eR) (hl : EvR ρ fl (.ok lo) Eqv) (hh : EvR ρ fh (.ok hi) Eqv) : EvR ρ (eCut f fl fh) (r.bind fun l => .ok (cutL l lo hi)) eR :=
  v_imp (v_cutT (v_imp h r_t) hl hh) t_r
/-! what is walked -/
def rangeI (lo hi : Int) : List Int := (List.range (hi - lo).toNat).map fun i => lo + (i : Nat)
open Classical in
noncomputable def rng1 (n : Int) : Res (List Int) := if Rg n then .ok (rangeI 0 n) else .bad
theorem rangeI_A2 (m n : Int) : A2 eI (rangeI m n) (rangeD m n) := A2.fn.mpr (by unfold rangeI rangeD; rw [List.map_map]; rfl)
theorem v_rng1 {r : Res Int} (h : EvR ρ f r eI) : EvR ρ (iRange1 f) (r.bind rng1) (A2 eI) := fun e l => by
  rw [iRange1_app]
  refine (h e l).bind fun n d hd => ?_
  rw [show d = _ from hd]
  unfold rng1
  by_cases k : Rg n
  · rw [if_pos k]; exact ⟨_, range1D_int n k, rangeI_A2 0 n⟩
  · rw [if_neg k]; trivial
theorem v_rng1p {n : Int} (h : EvR ρ f (.ok n) eI) : EvR ρ (iRange1 f) (rng1 n) (A2 eI) := v_rng1 h
/-- range(n) whose number is small enough: no questions asked -/
theorem rng1_ok {n : Int} (h : -1000000000 ≤ n) (k : n ≤ 1000000000) : rng1 n = .ok (rangeI 0 n) := if_pos (Rg.of h k)
end
/-! ### lists that are changed -/
section
variable {ρ : KEnv}
end
/-! ### dicts -/
structure KeyF {α : Type} (t : Bool) (f : α → D) : Prop where
  inj : ∀ a b, f a = f b → a = b
  ok : ∀ a, D.keyOk t (f a) = true
theorem KeyF.int : KeyF false D.int := ⟨fun a b h => by injection h, fun a => rfl⟩
theorem KeyF.str : KeyF false D.str := ⟨fun a b h => by injection h, fun a => rfl⟩
theorem KeyF.row : KeyF true ans := ⟨fun a b h => ans_inj h, ans_key⟩
section
variable [DecidableEq α] {t : Bool} {f : α → D} {E : RE β}
variable {ρ : KEnv}
end
end
end DL

/-! Typed readings: more operations, casts. -/
namespace DL
open PySem PySem.Spec PyProof.Rows L2
open PySem.Builtin.Int (intBits)

@[simp] theorem pow_10_30 : dPow (.int 10) (.int 30) = .ok (.int (10 ^ 30)) := dPow_of (by decide +kernel)
@[simp] theorem pow_10_12 : dPow (.int 10) (.int 12) = .ok (.int (10 ^ 12)) := dPow_of (by decide +kernel)
@[simp] theorem pow_10_6 : dPow (.int 10) (.int 6) = .ok (.int (10 ^ 6)) := dPow_of (by decide +kernel)
section
variable {α β γ : Type} {ρ : KEnv}
theorem b_andM {fa fb : DL.Env → Res Bool} {P : Prop} [Decidable P] {rb : Res Bool} (ha : EvR ρ fa (.ok (decide P)) Tr) (hb : EvR ρ fb rb Tr) : EvR ρ (bAnd fa fb) (if P then rb else .ok false) Tr := fun e l => by
  have := b_and ha hb e l
  rw [show (Res.ok (decide P)).bind (fun b => if b = true then rb else .ok false) = (if P then rb else .ok false) by by_cases h : P <;> simp [h]] at this
  exact this
/-! shares written down -/
/-! readings by a function -/
def Fun {α : Type} (E : RE α) (f : α → D) : Prop := ∀ a d, E a d ↔ eD (f a) d
def FunQ {α : Type} (Q : α → List D → Prop) (f : α → List D) : Prop := ∀ a d, Q a d ↔ d = f a
def fLst {α : Type} (f : α → D) : List α → D := fun l => .lst (l.map f)
def fTup {α : Type} (f : α → D) : List α → D := fun l => .tup (l.map f)
def fCons {α β : Type} (f : α → D) (g : β → List D) : α × β → List D := fun p => f p.1 :: g p.2
theorem Fun.int : Fun eI D.int := fun a d => Iff.rfl
theorem Fun.bl : Fun eB D.bl := fun a d => Iff.rfl
theorem Fun.str : Fun eS D.str := fun a d => Iff.rfl
theorem Fun.row : Fun eR ans := fun a d => Iff.rfl
theorem Fun.non : Fun eN (fun _ => D.non) := fun a d => Iff.rfl
theorem a2_fun {E : RE α} {f : α → D} (h : Fun E f) (l : List α) (ds : List D) : A2 E l ds ↔ ds = l.map f := by
  rw [← A2.fn]
  exact ⟨A2.imp fun a d => (h a d).mp, A2.imp fun a d => (h a d).mpr⟩
theorem Fun.lst {E : RE α} {f : α → D} (h : Fun E f) : Fun (eL E) (fLst f) := fun a d =>
  ⟨fun ⟨ds, e, r⟩ => by rw [e, (a2_fun h a ds).mp r]; rfl, fun e => ⟨_, e, (a2_fun h a _).mpr rfl⟩⟩
theorem Fun.tup {E : RE α} {f : α → D} (h : Fun E f) : Fun (eT E) (fTup f) := fun a d =>
  ⟨fun ⟨ds, e, r⟩ => by rw [e, (a2_fun h a ds).mp r]; rfl, fun e => ⟨_, e, (a2_fun h a _).mpr rfl⟩⟩
theorem FunQ.c {E : RE α} {f : α → D} {Q : β → List D → Prop} {g : β → List D} (h : Fun E f) (k : FunQ Q g) : FunQ (qC E Q) (fCons f g) := fun a d =>
  ⟨fun ⟨x, y, e, r, s⟩ => by rw [e, show x = _ from (h _ x).mp r, (k _ y).mp s]; rfl, fun e => ⟨_, _, e, (h _ _).mpr rfl, (k _ _).mpr rfl⟩⟩
/-! something or nothing -/
def optR {α : Type} : Option α → Res α
  | some a => .ok a
  | none => .bad
@[simp] theorem optR_some (a : α) : optR (some a) = .ok a := rfl
/-! texts -/
/-! keys -/
/-! tuples of raw data taken apart -/
/-! kinds of things -/
section
variable {E : RE α} {Q : α → List D → Prop}
end
/-! dicts: displays, copies, equality -/
/-! slices with a step -/
end
end DL

/-! What typed reckonings come to: they end well, and with what. -/
namespace DL
open PySem PySem.Spec PyProof.Rows L2
open PySem.Builtin.Int (intBits)
/-- it ends well, with what P says -/
def Ok {α : Type} (r : Res α) (P : α → Prop) : Prop := ∃ a, r = .ok a ∧ P a
section
variable {α β S R : Type}
theorem Ok.ok {a : α} {P : α → Prop} (h : P a) : Ok (.ok a) P := ⟨a, rfl, h⟩
theorem Ok.of {r : Res α} {a : α} {P : α → Prop} (e : r = .ok a) (h : P a) : Ok r P := ⟨a, e, h⟩
theorem Ok.bind {r : Res α} {f : α → Res β} {P : α → Prop} {Q : β → Prop} (h : Ok r P) (k : ∀ a, P a → Ok (f a) Q) : Ok (r.bind f) Q := by
  obtain ⟨a, rfl, h⟩ := h
  exact k a h
theorem Ok.imp {r : Res α} {P Q : α → Prop} (h : Ok r P) (k : ∀ a, P a → Q a) : Ok r Q := by
  obtain ⟨a, e, h⟩ := h
  exact ⟨a, e, k a h⟩
theorem Ok.eq {r : Res α} {a : α} (h : Ok r fun x => x = a) : r = .ok a := by obtain ⟨b, e, rfl⟩ := h; exact e
theorem Ok.get {r : Res α} {P : α → Prop} (h : Ok r P) : ∃ a, r = .ok a ∧ P a := h
/-! numbers -/
theorem Sm.sum : ∀ {l : List Int} {n : Nat}, (∀ z ∈ l, Sm n z) → l.length ≤ 64 → Sm (n + 6) l.sum := by
  have gen : ∀ (l : List Int) (n : Nat), (∀ z ∈ l, Sm n z) → l.sum.natAbs ≤ l.length * 2 ^ n := by
    intro l n
    induction l with
    | nil => intro _; exact Nat.zero_le _
    | cons z l ih =>
      intro h
      have a := ih fun y hy => h y (List.mem_cons_of_mem _ hy)
      have b : z.natAbs < 2 ^ n := h z List.mem_cons_self
      rw [List.sum_cons, List.length_cons, Nat.succ_mul]
      omega
  intro l n h hl
  by_cases hz : l = []
  · subst hz; show (0 : Int).natAbs < _; exact Nat.two_pow_pos _
  have a := gen l n h
  by_cases h63 : l.length ≤ 63
  · show l.sum.natAbs < 2 ^ (n + 6)
    rw [Nat.pow_add]
    have : l.length * 2 ^ n ≤ 63 * 2 ^ n := Nat.mul_le_mul_right _ h63
    have := Nat.two_pow_pos n
    omega
  · show l.sum.natAbs < 2 ^ (n + 6)
    have strict : ∀ (l : List Int), l ≠ [] → (∀ z ∈ l, Sm n z) → l.sum.natAbs < l.length * 2 ^ n := by
      intro l
      induction l with
      | nil => intro h; exact absurd rfl h
      | cons z l ih =>
        intro _ h
        have b : z.natAbs < 2 ^ n := h z List.mem_cons_self
        have a := gen l n fun y hy => h y (List.mem_cons_of_mem _ hy)
        rw [List.sum_cons, List.length_cons, Nat.succ_mul]
        omega
    have := strict l hz h
    rw [Nat.pow_add]
    have : l.length * 2 ^ n ≤ 64 * 2 ^ n := Nat.mul_le_mul_right _ hl
    omega
/-! lists -/
theorem fits_of {n : Nat} (h : n ≤ 10000000) : Fits n := by unfold Fits; rw [PySem.sizeLine_eq]; omega
theorem Ok.getL {l : List α} {i : Int} {P : α → Prop} (h : -(l.length : Int) ≤ i) (k : i < l.length) (q : ∀ a ∈ l, P a) : Ok (getL l i) P := by
  obtain ⟨a, m, e⟩ := getL_mem h k
  exact ⟨a, e, q a m⟩
theorem rangeI_mem {m n i : Int} : i ∈ rangeI m n ↔ m ≤ i ∧ i < n := by
  unfold rangeI
  simp only [List.mem_map, List.mem_range]
  constructor
  · rintro ⟨k, h1, h2⟩; omega
  · intro h; exact ⟨(i - m).toNat, by omega, by omega⟩
/-- each item by itself -/
theorem Ok.mapR {f : α → Res β} {P : α → β → Prop} : ∀ {l : List α}, (∀ a ∈ l, Ok (f a) (P a)) → Ok (mapR l f) fun bs => A2 P l bs
  | [], _ => ⟨[], rfl, rfl⟩
  | a :: l, h => by
    obtain ⟨b, e, hb⟩ := h a List.mem_cons_self
    obtain ⟨bs, e', hbs⟩ := Ok.mapR (l := l) fun x hx => h x (List.mem_cons_of_mem _ hx)
    exact ⟨b :: bs, by unfold DL.mapR; rw [e, e']; rfl, b, bs, rfl, hb, hbs⟩
theorem Ok.compR {f : α → Res β} {P : α → β → Prop} {Q : List β → Prop} {l : List α} (hl : l.length ≤ 10000000) (h : ∀ a ∈ l, Ok (f a) (P a)) (q : ∀ bs, A2 P l bs → Q bs) : Ok (compR l f) Q := by
  obtain ⟨bs, e, hb⟩ := Ok.mapR h
  refine ⟨bs, ?_, q bs hb⟩
  unfold DL.compR
  rw [if_pos (fits_of hl), e]
  rfl
theorem mapR_fn {f : α → Res β} {g : α → β} : ∀ {l : List α}, (∀ a ∈ l, f a = .ok (g a)) → DL.mapR l f = .ok (l.map g)
  | [], _ => rfl
  | a :: l, h => by unfold DL.mapR; rw [h a List.mem_cons_self, mapR_fn fun x hx => h x (List.mem_cons_of_mem _ hx)]; rfl
theorem compR_fn {f : α → Res β} {g : α → β} {l : List α} (hl : l.length ≤ 10000000) (h : ∀ a ∈ l, f a = .ok (g a)) : DL.compR l f = .ok (l.map g) := by
  unfold DL.compR
  rw [if_pos (fits_of hl), mapR_fn h]
  rfl
theorem forX_unit {f : α → Unit → Res (Oc Unit R)} {l : List α} (h : ∀ a ∈ l, f a () = .ok (.nx ())) : forX l () f = .ok (.nx ()) := by
  induction l with
  | nil => rfl
  | cons a l ih => unfold DL.forX; rw [h a List.mem_cons_self]; exact ih fun x hx => h x (List.mem_cons_of_mem _ hx)
@[simp] theorem thenX_nx {T : Type} (s : S) (m : R → T) (k : S → Res T) : thenX (.ok (.nx s)) m k = k s := Eq.trans rfl rfl
@[simp] theorem thenX_rt {T : Type} (v : R) (m : R → T) (k : S → Res T) : thenX (.ok (.rt v) : Res (Oc S R)) m k = .ok (m v) := Eq.trans rfl rfl
/-! while -/
end
end DL
namespace DL
end DL
namespace DL
end DL

/-! Typed readings: sets of lists, max with a default. -/
namespace DL
open PySem PySem.Spec PyProof.Rows L2
section
variable {α : Type}
/-! slices whose bounds may fail -/
end
end DL

/-! readings: a tuple times a number; more ways -/
namespace DL
open PySem PySem.Spec PyProof.Rows L2
section
variable {α : Type}
end
end DL

/-! readings: a list handed on and given back -/
namespace DL
open PySem PySem.Spec PyProof.Rows L2
section
variable {α β R S T : Type} {ρ : KEnv} {c : DL.Env → Out}
end
end DL
namespace DL
open PySem PySem.Spec PyProof.Rows L2
section
end
end DL

/-! readings: values of dicts -/
namespace DL
open PySem PySem.Spec PyProof.Rows L2
section
end
end DL

/-! readings: lists of ranges, sorted texts, a tuple's index -/
namespace DL
open PySem PySem.Spec PyProof.Rows L2
section
variable {α β : Type} {ρ : KEnv} {f g : DL.Env → Res D}
end
end DL

/-! readings: dicts that are walked -/
namespace DL
open PySem PySem.Spec PyProof.Rows L2
section
variable {α β : Type} {ρ : KEnv} {g : DL.Env → Res D} {b : Bool} {f : α → D} {Ek : RE α} {E : RE β} {r : Res (List (α × β))}
end
end DL

/-! shares that may be a module's constants -/
namespace DL
open PySem PySem.Spec PyProof.Rows L2
end DL

/-! a module's constant dict with text keys and whole numbers: x in T, T[x] -/
namespace DL
open PySem PySem.Spec PyProof.Rows L2
structure DctOk (K : PySem.W.Frag) (w : World) (mg : Str → Option Value) (x : String) (tab : List (Str × Int)) : Prop where
  ok : ∃ (d : Addr) (es : Array DictEntry) (n : Nat), mg (Str.ofString x) = some (.ref d) ∧ KDict K w d es n ∧ ∀ z, match getG tab z with
    | some i => ∃ t, PySem.W.nsIn K d z = some (some (.int i t))
    | none => PySem.W.nsIn K d z = some none
section
variable {X : Cx} {W : WX} {A : Nat → Prop} {a : Expr} {pos p : Pos} {x : String} {tab : List (Str × Int)} {f : DL.Env → Res D}
end
end DL

/-! readings: texts in order, and more -/
namespace DL
open PySem PySem.Spec PyProof.Rows L2
section
end
end DL
namespace DL
/-- a loop that may give back before its end -/
theorem Ok.forX {α S R : Type} {f : α → S → Res (Oc S R)} {l : List α} {s : S} (I : List α → S → Prop) (Q : R → Prop) (h0 : I [] s) (h : ∀ d a r s, l = d ++ a :: r → I d s → Ok (f a s) fun o => match o with | .nx s' => I (d ++ [a]) s' | .rt v => Q v | .bk _ => False) :
    Ok (forX l s f) fun o => match o with | .nx s' => I l s' | .rt v => Q v | .bk _ => False := by
  have gen : ∀ (r d : List α) (s : S), l = d ++ r → I d s → Ok (DL.forX r s f) fun o => match o with | .nx s' => I l s' | .rt v => Q v | .bk _ => False := by
    intro r
    induction r with
    | nil => intro d s e hI; rw [e, List.append_nil]; exact ⟨_, rfl, hI⟩
    | cons a r ih =>
      intro d s e hI
      unfold DL.forX
      obtain ⟨o, eo, ho⟩ := h d a r s e hI
      rw [eo, Res.bind_ok]
      cases o with
      | nx s' => exact ih (d ++ [a]) s' (by rw [e, List.append_assoc]; rfl) ho
      | rt v => exact ⟨_, rfl, ho⟩
      | bk s' => exact ho.elim
  exact gen l [] s rfl h0
end DL

/-! readings: insert, try, what is a list or a tuple -/
namespace DL
open PySem PySem.Spec PyProof.Rows L2
section
variable {α β T S R : Type} {ρ ρ' ρx : KEnv} {a b c : DL.Env → Out}
/-! ### try -/
/-- a handler that names the error: the same whatever its address -/
def UH {T : Type} (i : Nat) (ρ : KEnv) (fs : Addr → DL.Env → Out) (r : Res T) (P : T → KEnv) : Prop := ∀ e, Le ρ e → match r with
  | .ok t => ∃ e', (∀ a, clrN i (fs a (e.set i (some (.obj (.ref a), false)))) = .nx e') ∧ Le (P t) e'
  | _ => True
/-! ### a list or a tuple -/
/-! ### less known of what was handed on -/
def Lw : KEnv → KEnv → Prop := A2 fun r x => ∀ P, r = some P → ∃ P', x = some P' ∧ ∀ d o, P' d o → P d o
theorem Lw.nil : Lw [] [] := rfl
theorem Lw.same {r : Option Kn} {a b : KEnv} (s : Lw a b) : Lw (r :: a) (r :: b) := ⟨_, _, rfl, fun P h => ⟨P, h, fun _ _ h => h⟩, s⟩
theorem Lw.fr {E : RE α} {x : α} {a b : KEnv} (s : Lw a b) : Lw (some (sh E x) :: a) (some (frK (ow E x)) :: b) := ⟨_, _, rfl, fun P h => ⟨_, rfl, fun d o ⟨h1, _, h2, _⟩ => by cases h; exact ⟨h2, h1⟩⟩, s⟩
end
section
variable {α β : Type}
/-! ### equality where texts stand in tuples -/
structure EqG {α : Type} [DecidableEq α] (E : RE α) (ok : α → Bool) (n : Nat) : Prop where
  pl : ∀ a d, ok a = true → E a d → d.pl n = true
  beq : ∀ a b x y, E a x → E b y → PyData.eqv x.py y.py = decide (a = b)
structure EqGQ {α : Type} [DecidableEq α] (Q : α → List D → Prop) (ok : α → Bool) (n : Nat) : Prop where
  pl : ∀ a d, ok a = true → Q a d → D.pls d n = true
  beq : ∀ a b x y, Q a x → Q b y → PyData.eqvAll (D.pys x) (D.pys y) = decide (a = b)
theorem EqG.of [DecidableEq α] {E : RE α} {n : Nat} (h : EqE E n) : EqG E (fun _ => true) n := ⟨fun a d _ r => h.pl a d r, h.beq⟩
theorem EqG.str (n : Nat) : EqG eS PyData.strOk n := ⟨by rintro a _ h rfl; exact h, by
  rintro a b _ _ rfl rfl
  simp [D.py, PyData.eqv]
  exact Bool.eq_iff_iff.mpr (by simp)⟩
theorem EqGQ.c [DecidableEq α] [DecidableEq β] {E : RE α} {Q : β → List D → Prop} {n : Nat} {ok : α → Bool} {ok' : β → Bool} (h : EqG E ok n) (k : EqGQ Q ok' n) : EqGQ (qC E Q) (fun p => ok p.1 && ok' p.2) n := ⟨by
  rintro ⟨a, b⟩ _ o ⟨d, r, rfl, hd, hr⟩
  simp only [Bool.and_eq_true] at o
  simp [D.pls, h.pl a d o.1 hd, k.pl b r o.2 hr], by
  rintro ⟨a, b⟩ ⟨a', b'⟩ _ _ ⟨d, r, rfl, hd, hr⟩ ⟨d', r', rfl, hd', hr'⟩
  simp only [D.pys, PyData.eqvAll, h.beq _ _ d d' hd hd', k.beq _ _ r r' hr hr']
  by_cases h1 : a = a' <;> by_cases h2 : b = b' <;> simp [h1, h2]⟩
/-! ### dicts with row keys compared -/
end
end DL

/-! readings: defs that are lent lists and dicts -/
namespace DL
open PySem PySem.Spec PyProof.Rows L2
section
variable {α β R S T C C' : Type} {ρ ρ' : KEnv} {c : DL.Env → Out}
/-- the names at its start -/
def LeAM (bs : List Nat) (k : Nat) (ds : List D) (ρ : KEnv) : Prop := Le ρ (envMa bs k ds)
theorem LeAM.nil {bs : List Nat} {k : Nat} : LeAM bs k [] [] := rfl
theorem LeAM.sh {bs : List Nat} {k : Nat} {E : RE α} {x : α} {d : D} {ds : List D} (h : E x d) (hb : bs.elem k = false) (t : LeAM bs (k + 1) ds ρ) : LeAM bs k (d :: ds) (some (sh E x) :: ρ) := ⟨some (d, bs.elem k), _, rfl, fun P hP => ⟨d, _, rfl, by cases hP; exact ⟨h, hb⟩⟩, t⟩
theorem LeAM.ow {bs : List Nat} {k : Nat} {E : RE α} {x : α} {d : D} {ds : List D} (h : E x d) (hb : bs.elem k = true) (t : LeAM bs (k + 1) ds ρ) : LeAM bs k (d :: ds) (some (DL.ow E x) :: ρ) := ⟨some (d, bs.elem k), _, rfl, fun P hP => ⟨d, _, rfl, by cases hP; exact ⟨h, hb⟩⟩, t⟩
/-! ### calls -/
inductive KM where
  | v
  | o (i : Nat)
  | n
variable {al : List Nat}
end
end DL
namespace DL
open PySem PySem.Spec PyProof.Rows L2
end DL

/-! readings: loops of a def that is lent lists and dicts, with returns in them -/
namespace DL
open PySem PySem.Spec PyProof.Rows L2
section
variable {α β R S T C : Type} {ρ ρ' : KEnv} {a b c : DL.Env → Out} {P : T → Out → Prop}
end
end DL
namespace DL
open PySem PySem.Spec PyProof.Rows L2
end DL
namespace DL
open PySem PySem.Spec PyProof.Rows L2
end DL

/-! readings: what a lent def tells is given on, taken apart, or stands in a pair -/
namespace DL
open PySem PySem.Spec PyProof.Rows L2
section
variable {α β γ R S T C C' : Type} {ρ ρ' : KEnv} {c : DL.Env → Out} {al : List Nat}
end
end DL
namespace DL
open PySem PySem.Spec PyProof.Rows L2
/-! ### places in texts -/
end DL
namespace DL
end DL
namespace DL
section
variable {α : Type} {ρ : KEnv} {E : RE α} {f : α → D} {g : DL.Env → Res D}
theorem v_castF {a : α} (p : Fun E f) (h : EvR ρ g (.ok a) E) : EvR ρ g (.ok (f a)) eD := v_cast h fun _ h => (p _ _).mp h
end
end DL
namespace DL
end DL

/-! readings: x.update(e); statements never reached -/
namespace DL
open PySem PySem.Spec PyProof.Rows L2
section
variable {α β T : Type} {ρ : KEnv} {c : DL.Env → Out}
variable [DecidableEq α] {f : α → D} {E : RE β}
end
section
variable {ρ : KEnv} {f : DL.Env → Res D}
end
section
variable {α : Type} {E : RE α} {x : α} {a b : KEnv}
end
section
variable {ρ : KEnv} {f : DL.Env → Res D}
end
end DL

/-! readings: tuples known to have no dict of their own -/
namespace DL
open PySem PySem.Spec PyProof.Rows L2
section
variable {α β γ T : Type} {ρ : KEnv} {f : DL.Env → Res D} {fl fh : DL.Env → Res (Option Int)} {fs : DL.Env → Res (List D)}
def ePT {α : Type} (E : RE α) : RE (List α) := fun l d => ∃ ds, d = .con ds ∧ A2 E l ds
def fPT {α : Type} (f : α → D) : List α → D := fun l => .con (l.map f)
theorem Fun.pt {E : RE α} {f : α → D} (h : Fun E f) : Fun (ePT E) (fPT f) := fun a d =>
  ⟨fun ⟨ds, e, r⟩ => by rw [e, (a2_fun h a ds).mp r]; rfl, fun e => ⟨_, e, (a2_fun h a _).mpr rfl⟩⟩
theorem EqE.pt [DecidableEq α] {E : RE α} {n : Nat} (h : EqE E n) : EqE (ePT E) (n + 1) := ⟨by
  rintro a _ ⟨ds, rfl, r⟩; exact a2_pls h r, by
  rintro a b _ _ ⟨ds, rfl, r⟩ ⟨es, rfl, s⟩
  rw [D.py, D.py, PyData.eqv]; exact a2_eqvs h r s⟩
/-! a list, a tuple or a plain tuple -/
/-! remove of rows -/
/-! methods -/
/-! dict(t) -/
end
end DL

/-! readings: defs that give back a new list -/
namespace DL
open PySem PySem.Spec PyProof.Rows L2
section
variable {α β R S T : Type} {ρ : KEnv} {c : DL.Env → Out}
end
end DL

/-! readings: texts of numbers, put together and taken apart -/
namespace DL
open PySem PySem.Spec PyProof.Rows L2
section
variable {α β R S T : Type} {ρ : KEnv} {f g : DL.Env → Res D}
/-! f-strings -/
/-! the sum of a dict's values -/
end
end DL

/-! readings: several except clauses -/
namespace DL
open PySem PySem.Spec PyProof.Rows L2
section
variable {α β R S T : Type} {ρ ρx : KEnv} {a : DL.Env → Out}
inductive HUL {S : Type} (ρx : KEnv) (ρs : S → KEnv) : List Hdl → List ((String → Option Bool) × (String → Res S)) → Prop
  | nil : HUL ρx ρs [] []
  | cons {i : Nat} {h : String → Option Bool} {fs : Addr → String → DL.Env → Out} {k : String → Res S} {l : List Hdl} {kl : List ((String → Option Bool) × (String → Res S))} (u : ∀ c, UH i ρx (fun ad => fs ad c) (k c) ρs) (r : HUL ρx ρs l kl) : HUL ρx ρs ((i, h, fs) :: l) ((h, k) :: kl)
/-! l.index(row) of a list of rows -/
end
end DL

/-! readings: a loop over a list of one's own that is kept one's own -/
namespace DL
open PySem PySem.Spec PyProof.Rows L2
/-- the data are told by the reading alone -/
class FnE {α : Type} (E : RE α) : Prop where
  eq : ∀ x d d', E x d → E x d' → d = d'
theorem a2_fn {α : Type} {E : RE α} (h : ∀ x d d', E x d → E x d' → d = d') : ∀ {l : List α} {r r' : List D}, A2 E l r → A2 E l r' → r = r'
  | [], _, _, a, b => by rw [show _ = [] from a, show _ = [] from b]
  | x :: l, _, _, ⟨d, r, e, h1, t⟩, ⟨d', r', e', h1', t'⟩ => by rw [e, e', h x d d' h1 h1', a2_fn h t t']
instance : FnE eI := ⟨fun _ _ _ h k => by rw [show _ = _ from h, show _ = _ from k]⟩
instance : FnE eB := ⟨fun _ _ _ h k => by rw [show _ = _ from h, show _ = _ from k]⟩
instance : FnE eS := ⟨fun _ _ _ h k => by rw [show _ = _ from h, show _ = _ from k]⟩
instance : FnE eR := ⟨fun _ _ _ h k => by rw [show _ = _ from h, show _ = _ from k]⟩
instance : FnE eD := ⟨fun _ _ _ h k => by rw [show _ = _ from h, show _ = _ from k]⟩
instance {α : Type} {E : RE α} [FnE E] : FnE (eL E) := ⟨fun _ _ _ ⟨_, e, h⟩ ⟨_, e', h'⟩ => by rw [e, e', a2_fn FnE.eq h h']⟩
instance {α : Type} {E : RE α} [FnE E] : FnE (eT E) := ⟨fun _ _ _ ⟨_, e, h⟩ ⟨_, e', h'⟩ => by rw [e, e', a2_fn FnE.eq h h']⟩
class FnQ {α : Type} (Q : α → List D → Prop) : Prop where
  eq : ∀ x d d', Q x d → Q x d' → d = d'
instance : FnQ qN := ⟨fun _ _ _ h k => by rw [show _ = _ from h, show _ = _ from k]⟩
instance {α : Type} {E : RE α} [FnE E] : FnQ (q1 E) := ⟨fun _ _ _ ⟨_, e, h⟩ ⟨_, e', h'⟩ => by rw [e, e', FnE.eq _ _ _ h h']⟩
instance {α β : Type} {E : RE α} {Q : β → List D → Prop} [FnE E] [FnQ Q] : FnQ (qC E Q) := ⟨fun _ _ _ ⟨_, _, e, h, q⟩ ⟨_, _, e', h', q'⟩ => by rw [e, e', FnE.eq _ _ _ h h', FnQ.eq _ _ _ q q']⟩
instance {α : Type} {Q : α → List D → Prop} [FnQ Q] : FnE (eQ Q) := ⟨fun _ _ _ ⟨_, e, h⟩ ⟨_, e', h'⟩ => by rw [e, e', FnQ.eq _ _ _ h h']⟩
/-- numbers, texts, truth values and tuples of these -/
class TfE {α : Type} (E : RE α) : Prop where
  tf : ∀ x d, E x d → d.tfl = true
theorem a2_tf {α : Type} {E : RE α} (h : ∀ x d, E x d → d.tfl = true) : ∀ {l : List α} {r : List D}, A2 E l r → D.tfls r = true
  | [], _, a => by rw [show _ = [] from a]; rfl
  | x :: l, _, ⟨d, r, e, h1, t⟩ => by rw [e]; exact Bool.and_eq_true_iff.mpr ⟨h x d h1, a2_tf h t⟩
instance : TfE eI := ⟨fun _ _ h => by rw [show _ = _ from h]; rfl⟩
instance : TfE eB := ⟨fun _ _ h => by rw [show _ = _ from h]; rfl⟩
instance : TfE eS := ⟨fun _ _ h => by rw [show _ = _ from h]; rfl⟩
theorem tfls_ints : ∀ l : List Int, D.tfls (l.map D.int) = true
  | [] => rfl
  | _ :: l => Bool.and_eq_true_iff.mpr ⟨rfl, tfls_ints l⟩
instance : TfE eR := ⟨fun x _ h => by rw [show _ = _ from h]; exact tfls_ints x⟩
instance {α : Type} {E : RE α} [TfE E] : TfE (eT E) := ⟨fun _ _ ⟨_, e, h⟩ => by rw [e]; exact a2_tf TfE.tf h⟩
class TfQ {α : Type} (Q : α → List D → Prop) : Prop where
  tf : ∀ x d, Q x d → D.tfls d = true
instance : TfQ qN := ⟨fun _ _ h => by rw [show _ = _ from h]; rfl⟩
instance {α : Type} {E : RE α} [TfE E] : TfQ (q1 E) := ⟨fun _ _ ⟨_, e, h⟩ => by rw [e]; exact Bool.and_eq_true_iff.mpr ⟨TfE.tf _ _ h, rfl⟩⟩
instance {α β : Type} {E : RE α} {Q : β → List D → Prop} [TfE E] [TfQ Q] : TfQ (qC E Q) := ⟨fun _ _ ⟨_, _, e, h, q⟩ => by rw [e]; exact Bool.and_eq_true_iff.mpr ⟨TfE.tf _ _ h, TfQ.tf _ _ q⟩⟩
instance {α : Type} {Q : α → List D → Prop} [TfQ Q] : TfE (eQ Q) := ⟨fun _ _ ⟨_, e, h⟩ => by rw [e]; exact TfQ.tf _ _ h⟩
/-- the names' data are told by what is known -/
class FnKs (ρ : KEnv) : Prop where
  eq : ∀ (j : Nat) (P : Kn) (d : D) (o : Bool) (d' : D) (o' : Bool), ρ[j]? = some (some P) → P d o → P d' o' → d = d' ∧ o = o'
instance : FnKs [] := ⟨fun j P d o d' o' h => by simp at h⟩
instance {ρ : KEnv} [FnKs ρ] : FnKs (none :: ρ) := ⟨fun j P d o d' o' h => by
  cases j with
  | zero => cases h
  | succ j => exact FnKs.eq (ρ := ρ) j P d o d' o' (by simpa using h)⟩
instance {α : Type} {E : RE α} {x : α} {ρ : KEnv} [FnE E] [FnKs ρ] : FnKs (some (sh E x) :: ρ) := ⟨fun j P d o d' o' h => by
  cases j with
  | zero => cases h; exact fun ⟨a, b⟩ ⟨c, e⟩ => ⟨FnE.eq _ _ _ a c, b.trans e.symm⟩
  | succ j => exact FnKs.eq (ρ := ρ) j P d o d' o' (by simpa using h)⟩
instance {α : Type} {E : RE α} {x : α} {ρ : KEnv} [FnE E] [FnKs ρ] : FnKs (some (ow E x) :: ρ) := ⟨fun j P d o d' o' h => by
  cases j with
  | zero => cases h; exact fun ⟨a, b⟩ ⟨c, e⟩ => ⟨FnE.eq _ _ _ a c, b.trans e.symm⟩
  | succ j => exact FnKs.eq (ρ := ρ) j P d o d' o' (by simpa using h)⟩
section
variable {α β γ R S T : Type} {ρ ρ' : KEnv} {b : DL.Env → Out}
end
end DL

/-! readings: sorted(set(t)) of rows -/
namespace DL
open PySem PySem.Spec PyProof.Rows L2
end DL

/-! readings: plain tuples put together with others, sorted, made a set -/
namespace DL
open PySem PySem.Spec PyProof.Rows L2
end DL

/-! readings: errors with fields; l.pop(i); a text so many times -/
namespace DL
open PySem PySem.Spec PyProof.Rows L2
section
variable {α β R S T : Type} {ρ ρx : KEnv} {a b c : DL.Env → Out}
/-! ### handlers -/
/-- a handler: the same wherever the error lies -/
def UHX {T : Type} (i : Nat) (ρ : KEnv) (kv : List (D × D)) (fs : Addr → Option Addr → DL.Env → Out) (r : Res T) (P : T → KEnv) : Prop := ∀ e, Le ρ e → match r with
  | .ok t => ∃ e', (∀ a d, (d = none ↔ kv = []) → clrN i (fs a d (e.set i (some (slotX a d kv, false)))) = .nx e') ∧ Le (P t) e'
  | _ => True
inductive HUX {S : Type} (ρx : KEnv) (ρs : S → KEnv) : List HdX → List ((String → Option Bool) × (String → List (D × D) → Res S)) → Prop
  | nil : HUX ρx ρs [] []
  | cons {i : Nat} {h : String → Option Bool} {fs : Addr → Option Addr → String → DL.Env → Out} {k : String → List (D × D) → Res S} {l : List HdX} {kl : List ((String → Option Bool) × (String → List (D × D) → Res S))} (u : ∀ c kv, UHX i ρx kv (fun ad d => fs ad d c) (k c kv) ρs) (r : HUX ρx ρs l kl) : HUX ρx ρs ((i, h, fs) :: l) ((h, k) :: kl)
/-- a field of the error -/
def fldR (o : Bool) (kv : List (D × D)) (n : Str) : Res D := if o = true then (match fldOf kv n with | some x => .ok x | none => .bad) else .bad
/-! ### l.pop(i) -/
/-! ### a text so many times -/
end
end DL

/-! readings: defs with defaults; l.clear() -/
namespace DL
open PySem PySem.Spec PyProof.Rows L2
section
variable {α β γ δ T : Type} {ρ ρ' : KEnv} {c : DL.Env → Out}
end
end DL

/-! readings: errors as values -/
namespace DL
open PySem PySem.Spec PyProof.Rows L2
section
variable {α β S T : Type} {ρ ρx : KEnv} {a : DL.Env → Out} {f : DL.Env → Res D} {fs : DL.Env → Res (List D)}
def eEV : RE (String × List (D × D)) := fun x d => d = .err x.1 x.2
theorem Fun.err : Fun eEV (fun x => D.err x.1 x.2) := fun _ _ => Iff.rfl
theorem v_newE {c : String} {E : RE α} {r : Res α} (h : EvR ρ f r E) : EvR ρ (eNewE c f) (r.bind fun _ => .ok (c, ([] : List (D × D)))) eEV := fun e l => (h e l).bind fun a d hd => ⟨_, rfl, rfl⟩
theorem v_newX1 {c : String} {n : Str} {r : Res (Str × D)} (h : EvR ρ fs r (qC eS (q1 eD))) : EvR ρ (eNewX c [n] fs) (r.bind fun v => .ok (c, [(D.str n, v.2)])) eEV := fun e l => (h e l).bind fun v ds hd => by
  obtain ⟨d1, _, rfl, h1, d2, rfl, h2⟩ := hd
  rw [show d1 = .str v.1 from h1, show d2 = v.2 from h2]
  refine ⟨_, if_pos ⟨rfl, by simp⟩, ?_⟩
  simp [eEV, fldsD]
theorem v_newX2 {c : String} {n m : Str} {r : Res (Str × D × D)} (h : EvR ρ fs r (qC eS (qC eD (q1 eD)))) : EvR ρ (eNewX c [n, m] fs) (r.bind fun v => .ok (c, [(D.str m, v.2.2), (D.str n, v.2.1)])) eEV := fun e l => (h e l).bind fun v ds hd => by
  obtain ⟨d1, _, rfl, h1, d2, _, rfl, h2, d3, rfl, h3⟩ := hd
  rw [show d1 = .str v.1 from h1, show d2 = v.2.1 from h2, show d3 = v.2.2 from h3]
  refine ⟨_, if_pos ⟨rfl, by simp⟩, ?_⟩
  simp [eEV, fldsD]
theorem o_isV (t : String → Option Bool) (x : String × List (D × D)) : ∀ d, eEV x d → Rf (dIsV t d) (optR (t x.1)) eB := by
  rintro _ rfl
  show Rf (match t x.1 with | some b => (.ok (D.bl b) : Res D) | none => .bad) _ _
  cases t x.1 with
  | some b => exact ⟨_, rfl, rfl⟩
  | none => trivial
theorem o_fldV (t : String → Bool) (n : Str) (x : String × List (D × D)) : ∀ d, eEV x d → Rf (dFldV t n d) (fldR (t x.1) x.2 n) eD := by
  rintro _ rfl
  unfold fldR
  show Rf (if t x.1 = true then (match fldOf x.2 n with | some x => (.ok x : Res D) | none => .bad) else .bad) _ _
  cases t x.1 with
  | true =>
    rw [if_pos rfl]
    try rw [if_pos rfl]
    cases fldOf x.2 n with
    | some y => exact ⟨_, rfl, rfl⟩
    | none => trivial
  | false =>
    rw [if_neg Bool.false_ne_true]
    try rw [if_neg Bool.false_ne_true]
    trivial
end
end DL

namespace DL
open PySem PySem.Spec PyProof.Rows L2
theorem dv {X : Cx} {W : WX} {A : Nat → Prop} (i : Nat) {x : Str} {pos : Pos} (hN : X.N[i]? = some x := by rfl) (hv : Vis X.env.scope x := by first | exact .inl rfl | exact .inr (.inl rfl) | exact .inr (.inr rfl)) (hd : (x == ("__debug__" : Str)) = false := by decide) (hcd : (x == ("__classdict__" : Str)) = false := by decide) : DE X W A (.Name x pos) (eVarS i) := de_vs hN hv hd hcd
theorem vN {ρ : KEnv} (n : Int) : EvR ρ (eC (.int n)) (.ok n) eI := v_c (E := eI) (a := n) rfl
theorem szl {n : Nat} (h : n ≤ 1000000) : n ≤ sizeLine := by rw [PySem.sizeLine_eq]; omega
end DL

namespace DLaw
open DL PySem PySem.Spec PyProof.Rows L2
open PySem.Builtin.Int (intBits)
def top (i : Nat) : Stmt := PySem.Challenge.pw_blurdesk_k04_refusals_apart.main.body.getD i (.Pass ⟨0, 0, 0, 0⟩)
def i_NoDie : String → Option Bool := fun s => if s = "NoShare" then some false else (fun s => if s = "NoSpread" then some false else (fun s => if s = "NoAnswer" then some false else (fun s => if s = "NoDie" then some true else (fun s => if s = "TooMany" then some false else (fun s => if s = "PastPurse" then some false else (fun s => if s = "Unlike" then some false else (fun s => if s = "BadText" then some false else (fun s => if s = "BadProgram" then some false else (fun _ => none) s) s) s) s) s) s) s) s) s
def i_NoAnswer : String → Option Bool := fun s => if s = "NoShare" then some false else (fun s => if s = "NoSpread" then some false else (fun s => if s = "NoAnswer" then some true else (fun s => if s = "NoDie" then some false else (fun s => if s = "TooMany" then some false else (fun s => if s = "PastPurse" then some false else (fun s => if s = "Unlike" then some false else (fun s => if s = "BadText" then some false else (fun s => if s = "BadProgram" then some false else (fun _ => none) s) s) s) s) s) s) s) s) s
def i_NoSpread : String → Option Bool := fun s => if s = "NoShare" then some false else (fun s => if s = "NoSpread" then some true else (fun s => if s = "NoAnswer" then some false else (fun s => if s = "NoDie" then some false else (fun s => if s = "TooMany" then some false else (fun s => if s = "PastPurse" then some false else (fun s => if s = "Unlike" then some false else (fun s => if s = "BadText" then some false else (fun s => if s = "BadProgram" then some false else (fun _ => none) s) s) s) s) s) s) s) s) s
def i_NoShare : String → Option Bool := fun s => if s = "NoShare" then some true else (fun s => if s = "NoSpread" then some false else (fun s => if s = "NoAnswer" then some false else (fun s => if s = "NoDie" then some false else (fun s => if s = "TooMany" then some false else (fun s => if s = "PastPurse" then some false else (fun s => if s = "Unlike" then some false else (fun s => if s = "BadText" then some false else (fun s => if s = "BadProgram" then some false else (fun _ => none) s) s) s) s) s) s) s) s) s
def i_Unlike : String → Option Bool := fun s => if s = "NoShare" then some false else (fun s => if s = "NoSpread" then some false else (fun s => if s = "NoAnswer" then some false else (fun s => if s = "NoDie" then some false else (fun s => if s = "TooMany" then some false else (fun s => if s = "PastPurse" then some false else (fun s => if s = "Unlike" then some true else (fun s => if s = "BadText" then some false else (fun s => if s = "BadProgram" then some false else (fun _ => none) s) s) s) s) s) s) s) s) s
def i_PastPurse : String → Option Bool := fun s => if s = "NoShare" then some false else (fun s => if s = "NoSpread" then some false else (fun s => if s = "NoAnswer" then some false else (fun s => if s = "NoDie" then some false else (fun s => if s = "TooMany" then some false else (fun s => if s = "PastPurse" then some true else (fun s => if s = "Unlike" then some false else (fun s => if s = "BadText" then some false else (fun s => if s = "BadProgram" then some false else (fun _ => none) s) s) s) s) s) s) s) s) s
def i_TooMany : String → Option Bool := fun s => if s = "NoShare" then some false else (fun s => if s = "NoSpread" then some false else (fun s => if s = "NoAnswer" then some false else (fun s => if s = "NoDie" then some false else (fun s => if s = "TooMany" then some true else (fun s => if s = "PastPurse" then some false else (fun s => if s = "Unlike" then some false else (fun s => if s = "BadText" then some false else (fun s => if s = "BadProgram" then some false else (fun _ => none) s) s) s) s) s) s) s) s) s
def i_BadProgram : String → Option Bool := fun s => if s = "NoShare" then some false else (fun s => if s = "NoSpread" then some false else (fun s => if s = "NoAnswer" then some false else (fun s => if s = "NoDie" then some false else (fun s => if s = "TooMany" then some false else (fun s => if s = "PastPurse" then some false else (fun s => if s = "Unlike" then some false else (fun s => if s = "BadText" then some false else (fun s => if s = "BadProgram" then some true else (fun _ => none) s) s) s) s) s) s) s) s) s
def i_BadText : String → Option Bool := fun s => if s = "NoShare" then some false else (fun s => if s = "NoSpread" then some false else (fun s => if s = "NoAnswer" then some false else (fun s => if s = "NoDie" then some false else (fun s => if s = "TooMany" then some false else (fun s => if s = "PastPurse" then some false else (fun s => if s = "Unlike" then some false else (fun s => if s = "BadText" then some true else (fun s => if s = "BadProgram" then some false else (fun _ => none) s) s) s) s) s) s) s) s) s
def i_BlurError : String → Option Bool := fun s => if s = "NoShare" then some true else (fun s => if s = "NoSpread" then some true else (fun s => if s = "NoAnswer" then some true else (fun s => if s = "NoDie" then some true else (fun s => if s = "TooMany" then some true else (fun s => if s = "PastPurse" then some true else (fun s => if s = "Unlike" then some true else (fun s => if s = "BadText" then some true else (fun s => if s = "BadProgram" then some true else (fun _ => none) s) s) s) s) s) s) s) s) s
def i_ValueError : String → Option Bool := fun s => if s = "NoShare" then some true else (fun s => if s = "NoSpread" then some true else (fun s => if s = "NoAnswer" then some true else (fun s => if s = "NoDie" then some true else (fun s => if s = "TooMany" then some true else (fun s => if s = "PastPurse" then some true else (fun s => if s = "Unlike" then some true else (fun s => if s = "BadText" then some true else (fun s => if s = "BadProgram" then some true else (fun _ => none) s) s) s) s) s) s) s) s) s
def a_row : String → Bool := fun s => if s = "BadText" then true else (fun _ => false) s
def a_at : String → Bool := fun s => if s = "BadProgram" then true else (fun _ => false) s
def a_why : String → Bool := fun s => if s = "BadProgram" then true else (fun _ => false) s
/-! what the top says of the built-ins and errors -/
structure Txt (K : PySem.W.Frag) (mg : Str → Option Value) : Prop where
  z_isinstance : mg "isinstance" = none
  z_int : mg "int" = none
  z_bool : mg "bool" = none
  z_len : mg "len" = none
  z_range : mg "range" = none
  z_ValueError : mg "ValueError" = none
  z_tuple : mg "tuple" = none
  x_NoShare : ExcOk K mg "NoShare"
  x_NoSpread : ExcOk K mg "NoSpread"
  x_NoAnswer : ExcOk K mg "NoAnswer"
  x_NoDie : ExcOk K mg "NoDie"
  x_TooMany : ExcOk K mg "TooMany"
  x_PastPurse : ExcOk K mg "PastPurse"
  x_Unlike : ExcOk K mg "Unlike"
  m_row : FldNs K "row" a_row
  m_at : FldNs K "at" a_at
  m_why : FldNs K "why" a_why
  y_NoDie : ∃ c, mg "NoDie" = some (.ref c) ∧ ErrTab K (.ref c) i_NoDie
  y_NoAnswer : ∃ c, mg "NoAnswer" = some (.ref c) ∧ ErrTab K (.ref c) i_NoAnswer
  y_NoSpread : ∃ c, mg "NoSpread" = some (.ref c) ∧ ErrTab K (.ref c) i_NoSpread
  y_NoShare : ∃ c, mg "NoShare" = some (.ref c) ∧ ErrTab K (.ref c) i_NoShare
  y_Unlike : ∃ c, mg "Unlike" = some (.ref c) ∧ ErrTab K (.ref c) i_Unlike
  y_PastPurse : ∃ c, mg "PastPurse" = some (.ref c) ∧ ErrTab K (.ref c) i_PastPurse
  y_TooMany : ∃ c, mg "TooMany" = some (.ref c) ∧ ErrTab K (.ref c) i_TooMany
  y_BadProgram : ∃ c, mg "BadProgram" = some (.ref c) ∧ ErrTab K (.ref c) i_BadProgram
  y_BadText : ∃ c, mg "BadText" = some (.ref c) ∧ ErrTab K (.ref c) i_BadText
  y_BlurError : ∃ c, mg "BlurError" = some (.ref c) ∧ ErrTab K (.ref c) i_BlurError
  y_ValueError : ErrTab K (.type "ValueError") i_ValueError
  ns_NoShare : ∀ C, mg "NoShare" = some (.ref C) → PySem.W.nsIn K mainGlobals "NoShare" = some (some (.ref C))
  ns_NoSpread : ∀ C, mg "NoSpread" = some (.ref C) → PySem.W.nsIn K mainGlobals "NoSpread" = some (some (.ref C))
  ns_NoAnswer : ∀ C, mg "NoAnswer" = some (.ref C) → PySem.W.nsIn K mainGlobals "NoAnswer" = some (some (.ref C))
  ns_NoDie : ∀ C, mg "NoDie" = some (.ref C) → PySem.W.nsIn K mainGlobals "NoDie" = some (some (.ref C))
  ns_TooMany : ∀ C, mg "TooMany" = some (.ref C) → PySem.W.nsIn K mainGlobals "TooMany" = some (some (.ref C))
  ns_PastPurse : ∀ C, mg "PastPurse" = some (.ref C) → PySem.W.nsIn K mainGlobals "PastPurse" = some (some (.ref C))
  ns_Unlike : ∀ C, mg "Unlike" = some (.ref C) → PySem.W.nsIn K mainGlobals "Unlike" = some (some (.ref C))
  ns_BadText : ∀ C, mg "BadText" = some (.ref C) → PySem.W.nsIn K mainGlobals "BadText" = some (some (.ref C))
  ns_BadProgram : ∀ C, mg "BadProgram" = some (.ref C) → PySem.W.nsIn K mainGlobals "BadProgram" = some (some (.ref C))
/-! _law_made -/
abbrev s_l_made : Stmt := top 13
noncomputable def b_l_made : DL.Env → Out := (sSeq (sIf [] (bTest dEq (eVarS 0) (eC (.int 0))) (sSeq (sRet [] (eNewE "NoShare" (eVarS 1))) sSkip) sSkip) (sSeq (sIf [] (bTest dEq (eVarS 0) (eC (.int 1))) (sSeq (sRet [] (eNewE "NoSpread" (eVarS 1))) sSkip) sSkip) (sSeq (sIf [] (bTest dEq (eVarS 0) (eC (.int 2))) (sSeq (sRet [] (eNewE "NoAnswer" (eVarS 1))) sSkip) sSkip) (sSeq (sIf [] (bTest dEq (eVarS 0) (eC (.int 3))) (sSeq (sRet [] (eNewE "NoDie" (eVarS 1))) sSkip) sSkip) (sSeq (sIf [] (bTest dEq (eVarS 0) (eC (.int 4))) (sSeq (sRet [] (eNewE "TooMany" (eVarS 1))) sSkip) sSkip) (sSeq (sIf [] (bTest dEq (eVarS 0) (eC (.int 5))) (sSeq (sRet [] (eNewE "PastPurse" (eVarS 1))) sSkip) sSkip) (sSeq (sIf [] (bTest dEq (eVarS 0) (eC (.int 6))) (sSeq (sRet [] (eNewE "Unlike" (eVarS 1))) sSkip) sSkip) (sSeq (sIf [] (bTest dEq (eVarS 0) (eC (.int 7))) (sSeq (sRet [] (eNewX "BadText" ["row"] (aCons (eVarS 1) (aCons (eVarS 2) aNil)))) sSkip) sSkip) (sSeq (sRet [] (eNewX "BadProgram" ["at", "why"] (aCons (eVarS 1) (aCons (eVarS 3) (aCons (eVarS 4) aNil))))) sSkip)))))))))
noncomputable def F_l_made : List D → Res D := runDef 5 5 b_l_made
/-! _law_kinds -/
abbrev s_l_kinds : Stmt := top 14
noncomputable def b_l_kinds : DL.Env → Out := (sSeq (sSet [] 1 (eLst (aCons (e1 (dIsV i_NoShare) (eVarS 0)) (aCons (e1 (dIsV i_NoSpread) (eVarS 0)) (aCons (e1 (dIsV i_NoAnswer) (eVarS 0)) (aCons (e1 (dIsV i_NoDie) (eVarS 0)) aNil)))))) (sSeq (sSet [] 1 (eOp dAdd (eVarS 1) (eLst (aCons (e1 (dIsV i_TooMany) (eVarS 0)) (aCons (e1 (dIsV i_PastPurse) (eVarS 0)) (aCons (e1 (dIsV i_Unlike) (eVarS 0)) aNil)))))) (sSeq (sRet [] (eOp dAdd (eVarS 1) (eLst (aCons (e1 (dIsV i_BadText) (eVarS 0)) (aCons (e1 (dIsV i_BadProgram) (eVarS 0)) aNil))))) sSkip)))
noncomputable def F_l_kinds : List D → Res D := runDef 1 2 b_l_kinds
/-! _law_whole -/
abbrev s_l_whole : Stmt := top 12
noncomputable def b_l_whole : DL.Env → Out := (sSeq (sRet [] (eAnd (e1 isInt (eVarS 0)) (eNot (e1 isBool (eVarS 0))))) sSkip)
noncomputable def F_l_whole : List D → Res D := runDef 1 1 b_l_whole
/-! law -/
abbrev s_law : Stmt := top 15
noncomputable def b_law_1 : DL.Env → Out := (sSeq (sSet [] 3 (eOp dIxA (eVarS 1) (eVarS 2))) (sSeq (sSet [] 4 (eOp dMod (eOp dIxA (eVarS 1) (eOp dSub (eVarS 2) (eC (.int 1)))) (eOp dPow (eC (.int 10)) (eC (.int 60))))) (sSeq (sSet [] 5 (eCut (eTup (aCons (eOp dMod (eVarS 3) (eC (.int 97))) (aCons (eOp dMod (eOp dDiv (eVarS 3) (eC (.int 97))) (eC (.int 89))) aNil))) oNone (oSome (eOp dMod (eOp dDiv (eVarS 3) (eC (.int 9))) (eC (.int 3)))))) (sSeq (sSet [] 6 (eOp dIxA (eLst (aCons (eC (.str "name")) (aCons (eC (.str "width")) (aCons (eC (.str "key")) (aCons (eC (.str "a")) aNil))))) (eOp dMod (eOp dDiv (eVarS 3) (eC (.int 27))) (eC (.int 4))))) (sSeq (sSet [] 7 (eOp dMod (eOp dAdd (eVarS 3) (eVarS 2)) (eC (.int 9)))) (sSeq (sSet [] 8 (eCall F_l_made (aCons (eVarS 7) (aCons (eC (.str "no")) (aCons (eVarS 4) (aCons (eVarS 5) (aCons (eVarS 6) aNil))))))) (sSeq (sIf [] (bOr (bTest dNe (eCall F_l_kinds (aCons (eVarS 8) aNil)) (eComp [9] (.nm 9) (iRange1 (eC (.int 9))) bYes (eOp dEq (eVarS 9) (eVarS 7)))) (bNot (bTruth (e1 (dIsV i_BlurError) (eVarS 8))))) (sSeq (sRet [] (eC (.bl false))) sSkip) sSkip) (sSeq (sIf [] (bNot (bTruth (e1 (dIsV i_ValueError) (eVarS 8)))) (sSeq (sRet [] (eC (.bl false))) sSkip) sSkip) (sSeq (sIf [] (bAnd (bTest dEq (eVarS 7) (eC (.int 7))) (bOr (bNot (bTruth (eCall F_l_whole (aCons (e1 (dFldV a_row "row") (eVarS 8)) aNil)))) (bTest dNe (e1 (dFldV a_row "row") (eVarS 8)) (eVarS 4)))) (sSeq (sRet [] (eC (.bl false))) sSkip) sSkip) (sSeq (sIf [] (bAnd (bTest dEq (eVarS 7) (eC (.int 8))) (bOr (bTest dNe (e1 (dFldV a_at "at") (eVarS 8)) (eVarS 5)) (bOr (bNot (bTruth (e1 isTup (e1 (dFldV a_at "at") (eVarS 8))))) (bTest dNe (e1 (dFldV a_why "why") (eVarS 8)) (eVarS 6))))) (sSeq (sRet [] (eC (.bl false))) sSkip) sSkip) sSkip))))))))))
noncomputable def b_law : DL.Env → Out := (sSeq (sSet [] 1 (eOp dAdd (eVarS 0) (eLst (aCons (eC (.int 0)) (aCons (eC (.int 8)) (aCons (eC (.int 7)) aNil)))))) (sSeq (sFor [] (.nm 2) (iRange1 (e1 dLen (eVarS 1))) b_law_1) (sSeq (sRet [] (eC (.bl true))) sSkip)))
noncomputable def F_law : List D → Res D := runDef 1 10 b_law
@[simp] theorem strok_0 : PyData.strOk "no" = true := by decide +kernel
@[simp] theorem strok_1 : PyData.strOk "name" = true := by decide +kernel
@[simp] theorem strok_2 : PyData.strOk "width" = true := by decide +kernel
@[simp] theorem strok_3 : PyData.strOk "key" = true := by decide +kernel
@[simp] theorem strok_4 : PyData.strOk "a" = true := by decide +kernel
@[simp] theorem str_0_1 : (Str.ofString "no" = Str.ofString "name") = False := eq_false (by decide +kernel)
@[simp] theorem str_0_2 : (Str.ofString "no" = Str.ofString "width") = False := eq_false (by decide +kernel)
@[simp] theorem str_0_3 : (Str.ofString "no" = Str.ofString "key") = False := eq_false (by decide +kernel)
@[simp] theorem str_0_4 : (Str.ofString "no" = Str.ofString "a") = False := eq_false (by decide +kernel)
@[simp] theorem str_1_0 : (Str.ofString "name" = Str.ofString "no") = False := eq_false (by decide +kernel)
@[simp] theorem str_1_2 : (Str.ofString "name" = Str.ofString "width") = False := eq_false (by decide +kernel)
@[simp] theorem str_1_3 : (Str.ofString "name" = Str.ofString "key") = False := eq_false (by decide +kernel)
@[simp] theorem str_1_4 : (Str.ofString "name" = Str.ofString "a") = False := eq_false (by decide +kernel)
@[simp] theorem str_2_0 : (Str.ofString "width" = Str.ofString "no") = False := eq_false (by decide +kernel)
@[simp] theorem str_2_1 : (Str.ofString "width" = Str.ofString "name") = False := eq_false (by decide +kernel)
@[simp] theorem str_2_3 : (Str.ofString "width" = Str.ofString "key") = False := eq_false (by decide +kernel)
@[simp] theorem str_2_4 : (Str.ofString "width" = Str.ofString "a") = False := eq_false (by decide +kernel)
@[simp] theorem str_3_0 : (Str.ofString "key" = Str.ofString "no") = False := eq_false (by decide +kernel)
@[simp] theorem str_3_1 : (Str.ofString "key" = Str.ofString "name") = False := eq_false (by decide +kernel)
@[simp] theorem str_3_2 : (Str.ofString "key" = Str.ofString "width") = False := eq_false (by decide +kernel)
@[simp] theorem str_3_4 : (Str.ofString "key" = Str.ofString "a") = False := eq_false (by decide +kernel)
@[simp] theorem str_4_0 : (Str.ofString "a" = Str.ofString "no") = False := eq_false (by decide +kernel)
@[simp] theorem str_4_1 : (Str.ofString "a" = Str.ofString "name") = False := eq_false (by decide +kernel)
@[simp] theorem str_4_2 : (Str.ofString "a" = Str.ofString "width") = False := eq_false (by decide +kernel)
@[simp] theorem str_4_3 : (Str.ofString "a" = Str.ofString "key") = False := eq_false (by decide +kernel)
-- LIBS 
noncomputable def t_l_made (kind : Int) (words : Str) (row : Int) (at_ : (List Int)) (why : Str) : Res (String × List (D × D)) :=
  if kind = (0 : Int) then
  ((Res.ok words).bind fun _ => Res.ok ("NoShare", ([] : List (D × D))))
else
  if kind = (1 : Int) then
  ((Res.ok words).bind fun _ => Res.ok ("NoSpread", ([] : List (D × D))))
else
  if kind = (2 : Int) then
  ((Res.ok words).bind fun _ => Res.ok ("NoAnswer", ([] : List (D × D))))
else
  if kind = (3 : Int) then
  ((Res.ok words).bind fun _ => Res.ok ("NoDie", ([] : List (D × D))))
else
  if kind = (4 : Int) then
  ((Res.ok words).bind fun _ => Res.ok ("TooMany", ([] : List (D × D))))
else
  if kind = (5 : Int) then
  ((Res.ok words).bind fun _ => Res.ok ("PastPurse", ([] : List (D × D))))
else
  if kind = (6 : Int) then
  ((Res.ok words).bind fun _ => Res.ok ("Unlike", ([] : List (D × D))))
else
  if kind = (7 : Int) then
  ((Res.ok (words, (D.int row))).bind fun v => Res.ok ("BadText", [(D.str "row", v.2)]))
else
  ((Res.ok (words, (ans at_), (D.str why))).bind fun v => Res.ok ("BadProgram", [(D.str "why", v.2.2), (D.str "at", v.2.1)]))
theorem r_l_made : CallR F_l_made (qC eI (qC eS (qC eI (qC eR (q1 eS))))) (fun (a : Int × Str × Int × (List Int) × Str) => t_l_made a.1 a.2.1 a.2.2.1 a.2.2.2.1 a.2.2.2.2) eEV := by
  rintro ⟨kind, words, row, at_, why⟩ _ ⟨d0, _, rfl, h0, ⟨d1, _, rfl, h1, ⟨d2, _, rfl, h2, ⟨d3, _, rfl, h3, ⟨d4, rfl, h4⟩⟩⟩⟩⟩
  refine r_def (n := 5) (m := 5) (k := 0) (ρ := ([some (sh eI kind), some (sh eS words), some (sh eI row), some (sh eR at_), some (sh eS why)] : KEnv)) (LeA.cons h0 (LeA.cons h1 (LeA.cons h2 (LeA.cons h3 (LeA.cons h4 LeA.nil))))) rfl ?_
  exact (j_ifsP (al := []) (b_test (v_opp ((o_eq (EqE.int _)) _ _) (v_s (E := eI) (a := kind) (i := 0) rfl) (vN 0))) (j_assoc (j_retT (v_newE (v_s (E := eS) (a := words) (i := 1) rfl)))) (j_skip (j_ifsP (al := []) (b_test (v_opp ((o_eq (EqE.int _)) _ _) (v_s (E := eI) (a := kind) (i := 0) rfl) (vN 1))) (j_assoc (j_retT (v_newE (v_s (E := eS) (a := words) (i := 1) rfl)))) (j_skip (j_ifsP (al := []) (b_test (v_opp ((o_eq (EqE.int _)) _ _) (v_s (E := eI) (a := kind) (i := 0) rfl) (vN 2))) (j_assoc (j_retT (v_newE (v_s (E := eS) (a := words) (i := 1) rfl)))) (j_skip (j_ifsP (al := []) (b_test (v_opp ((o_eq (EqE.int _)) _ _) (v_s (E := eI) (a := kind) (i := 0) rfl) (vN 3))) (j_assoc (j_retT (v_newE (v_s (E := eS) (a := words) (i := 1) rfl)))) (j_skip (j_ifsP (al := []) (b_test (v_opp ((o_eq (EqE.int _)) _ _) (v_s (E := eI) (a := kind) (i := 0) rfl) (vN 4))) (j_assoc (j_retT (v_newE (v_s (E := eS) (a := words) (i := 1) rfl)))) (j_skip (j_ifsP (al := []) (b_test (v_opp ((o_eq (EqE.int _)) _ _) (v_s (E := eI) (a := kind) (i := 0) rfl) (vN 5))) (j_assoc (j_retT (v_newE (v_s (E := eS) (a := words) (i := 1) rfl)))) (j_skip (j_ifsP (al := []) (b_test (v_opp ((o_eq (EqE.int _)) _ _) (v_s (E := eI) (a := kind) (i := 0) rfl) (vN 6))) (j_assoc (j_retT (v_newE (v_s (E := eS) (a := words) (i := 1) rfl)))) (j_skip (j_ifsP (al := []) (b_test (v_opp ((o_eq (EqE.int _)) _ _) (v_s (E := eI) (a := kind) (i := 0) rfl) (vN 7))) (j_assoc (j_retT (v_newX1 (vq_cp (v_s (E := eS) (a := words) (i := 1) rfl) (vq_1 (v_castF (f := D.int) Fun.int (v_s (E := eI) (a := row) (i := 2) rfl))))))) (j_skip (j_retT (v_newX2 (vq_cp (v_s (E := eS) (a := words) (i := 1) rfl) (vq_cp (v_castF (f := ans) Fun.row (v_s (E := eR) (a := at_) (i := 3) rfl)) (vq_1 (v_castF (f := D.str) Fun.str (v_s (E := eS) (a := why) (i := 4) rfl)))))))))))))))))))))))
theorem c_l_made {ρ : KEnv} {fs : DL.Env → Res (List D)} {x0 : Int} {x1 : Str} {x2 : Int} {x3 : (List Int)} {x4 : Str} (h : EvR ρ fs (.ok (x0, x1, x2, x3, x4)) (qC eI (qC eS (qC eI (qC eR (q1 eS)))))) : EvR ρ (eCall F_l_made fs) (t_l_made x0 x1 x2 x3 x4) eEV := v_callp (t := fun a : Int × Str × Int × (List Int) × Str => t_l_made a.1 a.2.1 a.2.2.1 a.2.2.2.1 a.2.2.2.2) (a := (x0, x1, x2, x3, x4)) r_l_made h
theorem m_l_made {ρ : KEnv} {fs : DL.Env → Res (List D)} {r : Res (Int × Str × Int × (List Int) × Str)} (h : EvR ρ fs r (qC eI (qC eS (qC eI (qC eR (q1 eS)))))) : EvR ρ (eCall F_l_made fs) (r.bind fun a => t_l_made a.1 a.2.1 a.2.2.1 a.2.2.2.1 a.2.2.2.2) eEV := v_call (t := fun a : Int × Str × Int × (List Int) × Str => t_l_made a.1 a.2.1 a.2.2.1 a.2.2.2.1 a.2.2.2.2) r_l_made h
noncomputable def t_l_kinds (e_ : (String × List (D × D))) : Res (List Bool) :=
  ((optR (i_NoShare e_.1)).bind fun a7 => ((optR (i_NoSpread e_.1)).bind fun a5 => ((optR (i_NoAnswer e_.1)).bind fun a3 => ((optR (i_NoDie e_.1)).bind fun a1 => .ok (a1 :: [])).bind fun b4 => .ok (a3 :: b4)).bind fun b6 => .ok (a5 :: b6)).bind fun b8 => .ok (a7 :: b8)).bind fun found9 =>
  (((optR (i_TooMany e_.1)).bind fun a14 => ((optR (i_PastPurse e_.1)).bind fun a12 => ((optR (i_Unlike e_.1)).bind fun a10 => .ok (a10 :: [])).bind fun b13 => .ok (a12 :: b13)).bind fun b15 => .ok (a14 :: b15)).bind fun b17 => (catR found9 b17)).bind fun found18 =>
  (((optR (i_BadText e_.1)).bind fun a21 => ((optR (i_BadProgram e_.1)).bind fun a19 => .ok (a19 :: [])).bind fun b22 => .ok (a21 :: b22)).bind fun b24 => (catR found18 b24))
theorem r_l_kinds : CallR F_l_kinds (q1 eEV) (fun (a : (String × List (D × D))) => t_l_kinds a) (eL eB) := by
  rintro e_ _ ⟨d0, rfl, h0⟩
  refine r_def (n := 1) (m := 2) (k := 1) (ρ := ([some (sh eEV e_)] : KEnv)) (LeA.cons h0 LeA.nil) rfl ?_
  exact (j_do (d_set (al := []) (v_lst (vl_c (v_1p ((o_isV i_NoShare) _) (v_s (E := eEV) (a := e_) (i := 0) rfl)) (vl_c (v_1p ((o_isV i_NoSpread) _) (v_s (E := eEV) (a := e_) (i := 0) rfl)) (vl_c (v_1p ((o_isV i_NoAnswer) _) (v_s (E := eEV) (a := e_) (i := 0) rfl)) (vl_c (v_1p ((o_isV i_NoDie) _) (v_s (E := eEV) (a := e_) (i := 0) rfl)) vl_nil)))))) (fun found9 => (j_do (d_set (al := []) (v_op o_catL (v_s (E := (eL eB)) (a := found9) (i := 1) rfl) (v_lst (vl_c (v_1p ((o_isV i_TooMany) _) (v_s (E := eEV) (a := e_) (i := 0) rfl)) (vl_c (v_1p ((o_isV i_PastPurse) _) (v_s (E := eEV) (a := e_) (i := 0) rfl)) (vl_c (v_1p ((o_isV i_Unlike) _) (v_s (E := eEV) (a := e_) (i := 0) rfl)) vl_nil)))))) (fun found18 => (j_retT (v_op o_catL (v_s (E := (eL eB)) (a := found18) (i := 1) rfl) (v_lst (vl_c (v_1p ((o_isV i_BadText) _) (v_s (E := eEV) (a := e_) (i := 0) rfl)) (vl_c (v_1p ((o_isV i_BadProgram) _) (v_s (E := eEV) (a := e_) (i := 0) rfl)) vl_nil)))))))))
theorem c_l_kinds {ρ : KEnv} {fs : DL.Env → Res (List D)} {x0 : (String × List (D × D))} (h : EvR ρ fs (.ok x0) (q1 eEV)) : EvR ρ (eCall F_l_kinds fs) (t_l_kinds x0) (eL eB) := v_callp (t := fun a : (String × List (D × D)) => t_l_kinds a) (a := x0) r_l_kinds h
theorem m_l_kinds {ρ : KEnv} {fs : DL.Env → Res (List D)} {r : Res ((String × List (D × D)))} (h : EvR ρ fs r (q1 eEV)) : EvR ρ (eCall F_l_kinds fs) (r.bind fun a => t_l_kinds a) (eL eB) := v_call (t := fun a : (String × List (D × D)) => t_l_kinds a) r_l_kinds h
noncomputable def t_l_whole (found : D) : Res Bool :=
  ((rawB (isInt found)).bind fun z => if z = true then ((rawB (isBool found)).bind fun z => .ok (!z)) else .ok false)
theorem r_l_whole : CallR F_l_whole (q1 eD) (fun (a : D) => t_l_whole a) eB := by
  rintro found _ ⟨d0, rfl, h0⟩
  refine r_def (n := 1) (m := 1) (k := 0) (ρ := ([some (sh eD found)] : KEnv)) (LeA.cons h0 LeA.nil) rfl ?_
  exact (j_retT (v_and (v_1p ((o_raw1B isInt) _) (v_s (E := eD) (a := found) (i := 0) rfl)) (v_not (v_1p ((o_raw1B isBool) _) (v_s (E := eD) (a := found) (i := 0) rfl)))))
theorem c_l_whole {ρ : KEnv} {fs : DL.Env → Res (List D)} {x0 : D} (h : EvR ρ fs (.ok x0) (q1 eD)) : EvR ρ (eCall F_l_whole fs) (t_l_whole x0) eB := v_callp (t := fun a : D => t_l_whole a) (a := x0) r_l_whole h
theorem m_l_whole {ρ : KEnv} {fs : DL.Env → Res (List D)} {r : Res (D)} (h : EvR ρ fs r (q1 eD)) : EvR ρ (eCall F_l_whole fs) (r.bind fun a => t_l_whole a) eB := v_call (t := fun a : D => t_l_whole a) r_l_whole h
noncomputable def t_law (script : (List Int)) : Res Bool :=
  (catR script [(0 : Int), (8 : Int), (7 : Int)]).bind fun cells1 =>
  thenX ((rng1 ((cells1.length : Nat) : Int)).bind fun l24 => forX l24 () (fun k3 s2 =>
  (getL cells1 k3).bind fun cell4 =>
  ((getL cells1 (k3 - (1 : Int))).bind fun a5 => (modR a5 (10 ^ 60 : Int))).bind fun row7 =>
  (Res.ok (cutL [(cell4 % (97 : Int)), ((cell4 / (97 : Int)) % (89 : Int))] none (some ((cell4 / (9 : Int)) % (3 : Int))))).bind fun at_8 =>
  (getL [("name" : Str), ("width" : Str), ("key" : Str), ("a" : Str)] ((cell4 / (27 : Int)) % (4 : Int))).bind fun why9 =>
  (Res.ok ((cell4 + k3) % (9 : Int))).bind fun kind10 =>
  (t_l_made kind10 ("no" : Str) row7 at_8 why9).bind fun e_11 =>
  (((t_l_kinds e_11).bind fun a14 => ((rng1 (9 : Int)).bind fun l13 => compR l13 (fun j12 => (Res.ok (decide (j12 = kind10))))).bind fun b15 => .ok (decide (a14 ≠ b15))).bind fun z => if z = true then .ok true else ((optR (i_BlurError e_11.1)).bind fun z => .ok (!z))).bind fun z => if z = true then
  Res.ok (.rt false)
else
  ((optR (i_ValueError e_11.1)).bind fun z => .ok (!z)).bind fun z => if z = true then
  Res.ok (.rt false)
else
  (if kind10 = (7 : Int) then ((((fldR (a_row e_11.1) e_11.2 "row").bind fun a16 => t_l_whole a16).bind fun z => .ok (!z)).bind fun z => if z = true then .ok true else ((fldR (a_row e_11.1) e_11.2 "row").bind fun a17 => (rawB (dNe a17 (D.int row7))))) else .ok false).bind fun z => if z = true then
  Res.ok (.rt false)
else
  (if kind10 = (8 : Int) then (((fldR (a_at e_11.1) e_11.2 "at").bind fun a19 => (rawB (dNe a19 (ans at_8)))).bind fun z => if z = true then .ok true else ((((fldR (a_at e_11.1) e_11.2 "at").bind fun a21 => (rawB (isTup a21))).bind fun z => .ok (!z)).bind fun z => if z = true then .ok true else ((fldR (a_why e_11.1) e_11.2 "why").bind fun a22 => (rawB (dNe a22 (D.str why9)))))) else .ok false).bind fun z => if z = true then
  Res.ok (.rt false)
else
  Res.ok (.nx ())) : Res (Oc Unit Bool)) (fun v => v) fun s2 =>
  Res.ok true
theorem r_law : CallR F_law (q1 (eL eI)) (fun (a : (List Int)) => t_law a) eB := by
  rintro script _ ⟨d0, rfl, h0⟩
  refine r_def (n := 1) (m := 10) (k := 9) (ρ := ([some (sh (eL eI) script)] : KEnv)) (LeA.cons h0 LeA.nil) rfl ?_
  exact (j_do (d_set (al := []) (v_opp (o_catL _ _) (v_s (E := (eL eI)) (a := script) (i := 0) rfl) (v_lst (vl_cp (vN 0) (vl_cp (vN 8) (vl_cp (vN 7) vl_nil)))))) (fun cells1 => (j_xT (d_forX (E' := eB) (al := []) (ρs := fun (s2 : Unit) => ([some (sh (eL eI) script), some (sh (eL eI) cells1), none, none, none, none, none, none, none, none] : KEnv)) (ρb := fun k3 (s2 : Unit) => ([some (sh (eL eI) script), some (sh (eL eI) cells1), some (sh eI k3), none, none, none, none, none, none, none] : KEnv)) (v_rng1p (v_1p (o_lenL _) (v_s (E := (eL eI)) (a := cells1) (i := 1) rfl))) (Sb.same (Sb.same (Sb.drop (Sb.drop (Sb.drop (Sb.drop (Sb.drop (Sb.drop (Sb.drop (Sb.drop Sb.nil)))))))))) (fun k3 s2 => (p_nm (i := 2))) (fun k3 s2 => (j_do (d_set (al := []) (v_opp (o_ixAL _ _) (v_s (E := (eL eI)) (a := cells1) (i := 1) rfl) (v_s (E := eI) (a := k3) (i := 2) rfl))) (fun cell4 => (j_do (d_set (al := []) (v_op o_mod (v_opp (o_ixAL _ _) (v_s (E := (eL eI)) (a := cells1) (i := 1) rfl) (v_opp (o_sub _ _) (v_s (E := eI) (a := k3) (i := 2) rfl) (vN 1))) (v_opp (o_powL pow_10_60) (vN 10) (vN 60)))) (fun row7 => (j_do (d_set (al := []) (v_cutR (v_tupR (vl_cp (v_opp (o_modL _ (by decide)) (v_s (E := eI) (a := cell4) (i := 3) rfl) (vN 97)) (vl_cp (v_opp (o_modL _ (by decide)) (v_opp (o_divL _ (by decide) (by decide)) (v_s (E := eI) (a := cell4) (i := 3) rfl) (vN 97)) (vN 89)) vl_nil))) vo_n (vo_s (v_opp (o_modL _ (by decide)) (v_opp (o_divL _ (by decide) (by decide)) (v_s (E := eI) (a := cell4) (i := 3) rfl) (vN 9)) (vN 3))))) (fun at_8 => (j_do (d_set (al := []) (v_opp (o_ixAL _ _) (v_lst (vl_cp (v_c (E := eS) (a := ("name" : Str)) rfl) (vl_cp (v_c (E := eS) (a := ("width" : Str)) rfl) (vl_cp (v_c (E := eS) (a := ("key" : Str)) rfl) (vl_cp (v_c (E := eS) (a := ("a" : Str)) rfl) vl_nil))))) (v_opp (o_modL _ (by decide)) (v_opp (o_divL _ (by decide) (by decide)) (v_s (E := eI) (a := cell4) (i := 3) rfl) (vN 27)) (vN 4)))) (fun why9 => (j_do (d_set (al := []) (v_opp (o_modL _ (by decide)) (v_opp (o_add _ _) (v_s (E := eI) (a := cell4) (i := 3) rfl) (v_s (E := eI) (a := k3) (i := 2) rfl)) (vN 9))) (fun kind10 => (j_do (d_set (al := []) (c_l_made (vq_cp (v_s (E := eI) (a := kind10) (i := 7) rfl) (vq_cp (v_c (E := eS) (a := ("no" : Str)) rfl) (vq_cp (v_s (E := eI) (a := row7) (i := 4) rfl) (vq_cp (v_s (E := eR) (a := at_8) (i := 5) rfl) (vq_1 (v_s (E := eS) (a := why9) (i := 6) rfl)))))))) (fun e_11 => (j_ifs (al := []) (b_or (b_test (v_op (o_ne (EqE.lst (EqE.bl _))) (c_l_kinds (vq_1 (v_s (E := eEV) (a := e_11) (i := 8) rfl))) (v_comp (ρb := fun j12 => ([some (sh (eL eI) script), some (sh (eL eI) cells1), some (sh eI k3), some (sh eI cell4), some (sh eI row7), some (sh eR at_8), some (sh eS why9), some (sh eI kind10), some (sh eEV e_11), some (sh eI j12)] : KEnv)) (v_rng1p (vN 9)) (fun j12 => (p_nm (i := 9))) (fun j12 => (v_opp ((o_eq (EqE.int _)) _ _) (v_s (E := eI) (a := j12) (i := 9) rfl) (v_s (E := eI) (a := kind10) (i := 7) rfl)))))) (b_not (b_truB (v_1p ((o_isV i_BlurError) _) (v_s (E := eEV) (a := e_11) (i := 8) rfl))))) (j_assoc (j_retL (v_c (E := eB) (a := false) rfl))) (j_skip (j_ifs (al := []) (b_not (b_truB (v_1p ((o_isV i_ValueError) _) (v_s (E := eEV) (a := e_11) (i := 8) rfl)))) (j_assoc (j_retL (v_c (E := eB) (a := false) rfl))) (j_skip (j_ifs (al := []) (b_andM (b_test (v_opp ((o_eq (EqE.int _)) _ _) (v_s (E := eI) (a := kind10) (i := 7) rfl) (vN 7))) (b_or (b_not (b_truB (m_l_whole (vq_1 (v_1p ((o_fldV a_row "row") _) (v_s (E := eEV) (a := e_11) (i := 8) rfl)))))) (b_test (v_op (o_rawB dNe) (v_1p ((o_fldV a_row "row") _) (v_s (E := eEV) (a := e_11) (i := 8) rfl)) (v_castF (f := D.int) Fun.int (v_s (E := eI) (a := row7) (i := 4) rfl)))))) (j_assoc (j_retL (v_c (E := eB) (a := false) rfl))) (j_skip (j_ifs (al := []) (b_andM (b_test (v_opp ((o_eq (EqE.int _)) _ _) (v_s (E := eI) (a := kind10) (i := 7) rfl) (vN 8))) (b_or (b_test (v_op (o_rawB dNe) (v_1p ((o_fldV a_at "at") _) (v_s (E := eEV) (a := e_11) (i := 8) rfl)) (v_castF (f := ans) Fun.row (v_s (E := eR) (a := at_8) (i := 5) rfl)))) (b_or (b_not (b_truB (v_1 (o_raw1B isTup) (v_1p ((o_fldV a_at "at") _) (v_s (E := eEV) (a := e_11) (i := 8) rfl))))) (b_test (v_op (o_rawB dNe) (v_1p ((o_fldV a_why "why") _) (v_s (E := eEV) (a := e_11) (i := 8) rfl)) (v_castF (f := D.str) Fun.str (v_s (E := eS) (a := why9) (i := 6) rfl))))))) (j_assoc (j_retL (v_c (E := eB) (a := false) rfl))) (j_skip (j_endL (Sb.same (Sb.same (Sb.drop (Sb.drop (Sb.drop (Sb.drop (Sb.drop (Sb.drop (Sb.drop (Sb.drop Sb.nil))))))))))))))))))))))))))))))))) (fun s2 => (j_retT (v_c (E := eB) (a := true) rfl))))))
theorem c_law {ρ : KEnv} {fs : DL.Env → Res (List D)} {x0 : (List Int)} (h : EvR ρ fs (.ok x0) (q1 (eL eI))) : EvR ρ (eCall F_law fs) (t_law x0) eB := v_callp (t := fun a : (List Int) => t_law a) (a := x0) r_law h
theorem m_law {ρ : KEnv} {fs : DL.Env → Res (List D)} {r : Res ((List Int))} (h : EvR ρ fs r (q1 (eL eI))) : EvR ρ (eCall F_law fs) (r.bind fun a => t_law a) eB := v_call (t := fun a : (List Int) => t_law a) r_law h
/-! ### k04 -/
theorem dNe_i (i : Int) : rawB (dNe (.int i) (.int i)) = .ok false := by rw [dNe_self (by simp [D.pl])]; rfl
theorem dNe_a (l : List Int) : rawB (dNe (ans l) (ans l)) = .ok false := by rw [dNe_self (ans_pl l 59)]; rfl
theorem dNe_s {s : Str} (h : PyData.strOk s = true) : rawB (dNe (.str s) (.str s)) = .ok false := by rw [dNe_self (by simp [D.pl, h])]; rfl
theorem kinds_ok {c : String} {fs : List (D × D)} (k : Int) (h0 : i_NoShare c = some (decide ((0 : Int) = k))) (h1 : i_NoSpread c = some (decide ((1 : Int) = k))) (h2 : i_NoAnswer c = some (decide ((2 : Int) = k))) (h3 : i_NoDie c = some (decide ((3 : Int) = k))) (h4 : i_TooMany c = some (decide ((4 : Int) = k))) (h5 : i_PastPurse c = some (decide ((5 : Int) = k))) (h6 : i_Unlike c = some (decide ((6 : Int) = k))) (h7 : i_BadText c = some (decide ((7 : Int) = k))) (h8 : i_BadProgram c = some (decide ((8 : Int) = k))) : t_l_kinds (c, fs) = .ok [decide ((0 : Int) = k), decide ((1 : Int) = k), decide ((2 : Int) = k), decide ((3 : Int) = k), decide ((4 : Int) = k), decide ((5 : Int) = k), decide ((6 : Int) = k), decide ((7 : Int) = k), decide ((8 : Int) = k)] := by
  unfold t_l_kinds
  dsimp only
  rw [h0, h1, h2, h3, h4, h5, h6, h7, h8]
  simp only [optR, Res.bind_ok]
  rw [catR_ok (by simp), Res.bind_ok, catR_ok (by simp)]
  rfl
theorem cmp_ok (k : Int) : ((rng1 (9 : Int)).bind fun l13 => compR l13 (fun j12 => (Res.ok (decide (j12 = k))))) = .ok [decide ((0 : Int) = k), decide ((1 : Int) = k), decide ((2 : Int) = k), decide ((3 : Int) = k), decide ((4 : Int) = k), decide ((5 : Int) = k), decide ((6 : Int) = k), decide ((7 : Int) = k), decide ((8 : Int) = k)] := by
  rw [rng1_ok (by decide) (by decide), Res.bind_ok, compR_fn (g := fun j => decide (j = k)) (by decide) (fun _ _ => rfl)]
  have : rangeI 0 9 = [0, 1, 2, 3, 4, 5, 6, 7, 8] := by decide
  rw [this]
  rfl
theorem law_typed (s : List Int) (hl : s.length ≤ 63) : t_law s = .ok true := by
  unfold t_law
  rw [catR_ok (by simp; omega), Res.bind_ok]
  generalize hc : s ++ [(0 : Int), (8 : Int), (7 : Int)] = cells
  have cl : cells.length ≤ 66 ∧ 3 ≤ cells.length := by rw [← hc, List.length_append]; simp; omega
  rw [rng1_ok (by omega) (by omega), Res.bind_ok, forX_unit, thenX_nx]
  intro k hk
  have hk := rangeI_mem.mp hk
  obtain ⟨c, ec, _⟩ := Ok.getL (l := cells) (i := k) (P := fun _ => True) (by omega) hk.2 fun _ _ => trivial
  obtain ⟨r, er, _⟩ := Ok.getL (l := cells) (i := k - 1) (P := fun _ => True) (by omega) (by omega) fun _ _ => trivial
  obtain ⟨w, ew, hw⟩ := Ok.getL (l := [("name" : Str), ("width" : Str), ("key" : Str), ("a" : Str)]) (i := (c / (27 : Int)) % (4 : Int)) (P := fun x => PyData.strOk x = true) (by simp; omega) (by simp; omega) (by decide +kernel)
  rw [ec, Res.bind_ok, er, Res.bind_ok, modR_pos (by decide +kernel), Res.bind_ok, Res.bind_ok, ew, Res.bind_ok, Res.bind_ok]
  have k0 := Int.emod_nonneg (c + k) (b := 9) (by decide)
  have k9 := Int.emod_lt_of_pos (c + k) (b := 9) (by decide)
  generalize (c + k) % 9 = kind at k0 k9
  generalize cutL [c % 97, c / 97 % 89] none (some (c / 9 % 3)) = at_
  generalize r % _ = row
  have : kind = 0 ∨ kind = 1 ∨ kind = 2 ∨ kind = 3 ∨ kind = 4 ∨ kind = 5 ∨ kind = 6 ∨ kind = 7 ∨ kind = 8 := by omega
  rcases this with rfl | rfl | rfl | rfl | rfl | rfl | rfl | rfl | rfl
  · rw [show t_l_made 0 "no" row at_ w = .ok ("NoShare", []) from rfl, Res.bind_ok, kinds_ok (c := "NoShare") 0 (by decide) (by decide) (by decide) (by decide) (by decide) (by decide) (by decide) (by decide) (by decide), cmp_ok]
    rfl
  · rw [show t_l_made 1 "no" row at_ w = .ok ("NoSpread", []) from rfl, Res.bind_ok, kinds_ok (c := "NoSpread") 1 (by decide) (by decide) (by decide) (by decide) (by decide) (by decide) (by decide) (by decide) (by decide), cmp_ok]
    rfl
  · rw [show t_l_made 2 "no" row at_ w = .ok ("NoAnswer", []) from rfl, Res.bind_ok, kinds_ok (c := "NoAnswer") 2 (by decide) (by decide) (by decide) (by decide) (by decide) (by decide) (by decide) (by decide) (by decide), cmp_ok]
    rfl
  · rw [show t_l_made 3 "no" row at_ w = .ok ("NoDie", []) from rfl, Res.bind_ok, kinds_ok (c := "NoDie") 3 (by decide) (by decide) (by decide) (by decide) (by decide) (by decide) (by decide) (by decide) (by decide), cmp_ok]
    rfl
  · rw [show t_l_made 4 "no" row at_ w = .ok ("TooMany", []) from rfl, Res.bind_ok, kinds_ok (c := "TooMany") 4 (by decide) (by decide) (by decide) (by decide) (by decide) (by decide) (by decide) (by decide) (by decide), cmp_ok]
    rfl
  · rw [show t_l_made 5 "no" row at_ w = .ok ("PastPurse", []) from rfl, Res.bind_ok, kinds_ok (c := "PastPurse") 5 (by decide) (by decide) (by decide) (by decide) (by decide) (by decide) (by decide) (by decide) (by decide), cmp_ok]
    rfl
  · rw [show t_l_made 6 "no" row at_ w = .ok ("Unlike", []) from rfl, Res.bind_ok, kinds_ok (c := "Unlike") 6 (by decide) (by decide) (by decide) (by decide) (by decide) (by decide) (by decide) (by decide) (by decide), cmp_ok]
    rfl
  · rw [show t_l_made 7 "no" row at_ w = .ok ("BadText", [(D.str "row", D.int row)]) from rfl, Res.bind_ok, kinds_ok (c := "BadText") 7 (by decide) (by decide) (by decide) (by decide) (by decide) (by decide) (by decide) (by decide) (by decide), cmp_ok]
    have ef : fldR (a_row "BadText") [(D.str "row", D.int row)] "row" = .ok (D.int row) := rfl
    dsimp only
    rw [ef]
    simp only [Res.bind_ok]
    rw [dNe_i]
    rfl
  · rw [show t_l_made 8 "no" row at_ w = .ok ("BadProgram", [(D.str "why", D.str w), (D.str "at", ans at_)]) from rfl, Res.bind_ok, kinds_ok (c := "BadProgram") 8 (by decide) (by decide) (by decide) (by decide) (by decide) (by decide) (by decide) (by decide) (by decide), cmp_ok]
    have ef : fldR (a_at "BadProgram") [(D.str "why", D.str w), (D.str "at", ans at_)] "at" = .ok (ans at_) := rfl
    have eg : fldR (a_why "BadProgram") [(D.str "why", D.str w), (D.str "at", ans at_)] "why" = .ok (D.str w) := rfl
    dsimp only
    rw [ef, eg]
    simp only [Res.bind_ok]
    rw [dNe_a, dNe_s hw]
    rfl
theorem law_holds (ns : List Int) (hl : ns.length ≤ 63) (hb : ∀ z ∈ ns, intBits z ≤ 1048576) : F_law [.lst (ns.map D.int)] = .ok (.bl true) := by
  obtain ⟨d, h1, h2⟩ := (r_law ns _ ⟨_, rfl, _, rfl, A2.fn.mpr rfl⟩).get (law_typed ns hl)
  rw [h1, show d = _ from h2]

end DLaw
namespace DLaw
open PySem PySem.Spec PyProof.Rows L2
open DL
abbrev s_BadText_init : Stmt := inClass (top 9) 0
theorem ok_BadText_init {P : Program} {w : World} {K : PySem.W.Frag} {mg : Str → Option Value} {base : Heap} {f B : Addr} {fd : FuncData} (TB : BasE K B) (hB : mg "BlurError" = some (.ref B)) (F : Fun K "__init__" "BadText.__init__" s_BadText_init f fd) : FnOk P w K mg base (L2.CX P w) 1 f fd ["self", "words", "row"] (spI K ["row"]) :=
  F.okX (N := ["self", "words", "row"]) (k := 0) ⟨rfl, rfl, rfl, by decide +kernel, rfl, by decide +kernel, by decide +kernel⟩ (fun vs H Q E h => h.1) fun cdv A outer s H vs Q E hr h => ⟨_, pss_cons (ps_expr (pe_baseini TB rfl hB (pa_cons (pe_var (i := 0) rfl (by first | exact .inl rfl | exact .inr (.inl rfl) | exact .inr (.inr rfl))) (pa_cons (pe_var (i := 1) rfl (by first | exact .inl rfl | exact .inr (.inl rfl) | exact .inr (.inr rfl))) pa_nil)))) (pss_cons (ps_ost (pe_var (i := 0) rfl (by first | exact .inl rfl | exact .inr (.inl rfl) | exact .inr (.inr rfl))) (pe_var (i := 2) rfl (by first | exact .inl rfl | exact .inr (.inl rfl) | exact .inr (.inr rfl)))) pss_nil), ini_one h _ fun _ _ q => q⟩
abbrev s_BadProgram_init : Stmt := inClass (top 10) 0
theorem ok_BadProgram_init {P : Program} {w : World} {K : PySem.W.Frag} {mg : Str → Option Value} {base : Heap} {f B : Addr} {fd : FuncData} (TB : BasE K B) (hB : mg "BlurError" = some (.ref B)) (F : Fun K "__init__" "BadProgram.__init__" s_BadProgram_init f fd) : FnOk P w K mg base (L2.CX P w) 1 f fd ["self", "words", "at", "why"] (spI K ["at", "why"]) :=
  F.okX (N := ["self", "words", "at", "why"]) (k := 0) ⟨rfl, rfl, rfl, by decide +kernel, rfl, by decide +kernel, by decide +kernel⟩ (fun vs H Q E h => h.1) fun cdv A outer s H vs Q E hr h => ⟨_, pss_cons (ps_expr (pe_baseini TB rfl hB (pa_cons (pe_var (i := 0) rfl (by first | exact .inl rfl | exact .inr (.inl rfl) | exact .inr (.inr rfl))) (pa_cons (pe_var (i := 1) rfl (by first | exact .inl rfl | exact .inr (.inl rfl) | exact .inr (.inr rfl))) pa_nil)))) (pss_cons (ps_ost (pe_var (i := 0) rfl (by first | exact .inl rfl | exact .inr (.inl rfl) | exact .inr (.inr rfl))) (pe_var (i := 2) rfl (by first | exact .inl rfl | exact .inr (.inl rfl) | exact .inr (.inr rfl)))) (pss_cons (ps_ost (pe_var (i := 0) rfl (by first | exact .inl rfl | exact .inr (.inl rfl) | exact .inr (.inr rfl))) (pe_var (i := 3) rfl (by first | exact .inl rfl | exact .inr (.inl rfl) | exact .inr (.inr rfl)))) pss_nil)), ini_two h _ fun _ _ q => q⟩
abbrev N_l_made : List Str := ["_law_kind", "_law_words", "_law_row", "_law_at", "_law_why"]
theorem sc_l_made : FnScope N_l_made ["_law_kind", "_law_words", "_law_row", "_law_at", "_law_why"] (defScope s_l_made) := ⟨rfl, rfl, rfl, by decide +kernel, rfl, by decide +kernel, by decide +kernel⟩
theorem ok_l_made {P : Program} {w : World} {K : PySem.W.Frag} {mg : Str → Option Value} {base : Heap} {f : Addr} {fd : FuncData} (T : Txt K mg) (F : Fun K "_law_made" "_law_made" s_l_made f fd) (x_BadText : FldOk P w K mg base 1 "BadText" ["row"]) (x_BadProgram : FldOk P w K mg base 1 "BadProgram" ["at", "why"])  :
    FnOk P w K mg base (L2.CX P w) 3 f fd ["_law_kind", "_law_words", "_law_row", "_law_at", "_law_why"] (spD K mg 5 F_l_made) :=
  fnD (N := N_l_made) (k := 2) (fb := b_l_made) F sc_l_made fun cdv A outer s H G E hr tk hp =>
    by have hu := Room.hu hr; exact (dss_cons (ds_if (al := []) (dt_cmp (od_eq hu) (dr (dv 0)) (dr de_int) (nomark _)) (dss_cons (ds_ret (al := []) (de_newE (c := "NoShare") T.x_NoShare T.ns_NoShare rfl (dv 1))) dss_nil) dss_nil) (dss_cons (ds_if (al := []) (dt_cmp (od_eq hu) (dr (dv 0)) (dr de_int) (nomark _)) (dss_cons (ds_ret (al := []) (de_newE (c := "NoSpread") T.x_NoSpread T.ns_NoSpread rfl (dv 1))) dss_nil) dss_nil) (dss_cons (ds_if (al := []) (dt_cmp (od_eq hu) (dr (dv 0)) (dr de_int) (nomark _)) (dss_cons (ds_ret (al := []) (de_newE (c := "NoAnswer") T.x_NoAnswer T.ns_NoAnswer rfl (dv 1))) dss_nil) dss_nil) (dss_cons (ds_if (al := []) (dt_cmp (od_eq hu) (dr (dv 0)) (dr de_int) (nomark _)) (dss_cons (ds_ret (al := []) (de_newE (c := "NoDie") T.x_NoDie T.ns_NoDie rfl (dv 1))) dss_nil) dss_nil) (dss_cons (ds_if (al := []) (dt_cmp (od_eq hu) (dr (dv 0)) (dr de_int) (nomark _)) (dss_cons (ds_ret (al := []) (de_newE (c := "TooMany") T.x_TooMany T.ns_TooMany rfl (dv 1))) dss_nil) dss_nil) (dss_cons (ds_if (al := []) (dt_cmp (od_eq hu) (dr (dv 0)) (dr de_int) (nomark _)) (dss_cons (ds_ret (al := []) (de_newE (c := "PastPurse") T.x_PastPurse T.ns_PastPurse rfl (dv 1))) dss_nil) dss_nil) (dss_cons (ds_if (al := []) (dt_cmp (od_eq hu) (dr (dv 0)) (dr de_int) (nomark _)) (dss_cons (ds_ret (al := []) (de_newE (c := "Unlike") T.x_Unlike T.ns_Unlike rfl (dv 1))) dss_nil) dss_nil) (dss_cons (ds_if (al := []) (dt_cmp (od_eq hu) (dr (dv 0)) (dr de_int) (nomark _)) (dss_cons (ds_ret (al := []) (de_newX (c := "BadText") x_BadText T.ns_BadText hr tk rfl (da_cons (dv 1) (da_cons (dv 2) da_nil)))) dss_nil) dss_nil) (dss_cons (ds_ret (al := []) (de_newX (c := "BadProgram") x_BadProgram T.ns_BadProgram hr tk rfl (da_cons (dv 1) (da_cons (dv 3) (da_cons (dv 4) da_nil))))) dss_nil)))))))))
abbrev N_l_kinds : List Str := ["_law_e", "_law_found"]
theorem sc_l_kinds : FnScope N_l_kinds ["_law_e"] (defScope s_l_kinds) := ⟨rfl, rfl, rfl, by decide +kernel, rfl, by decide +kernel, by decide +kernel⟩
theorem ok_l_kinds {P : Program} {w : World} {K : PySem.W.Frag} {mg : Str → Option Value} {base : Heap} {f : Addr} {fd : FuncData} (T : Txt K mg) (F : Fun K "_law_kinds" "_law_kinds" s_l_kinds f fd)  :
    FnOk P w K mg base (L2.CX P w) 1 f fd ["_law_e"] (spD K mg 1 F_l_kinds) :=
  fnD (N := N_l_kinds) (k := 0) (fb := b_l_kinds) F sc_l_kinds fun cdv A outer s H G E hr tk hp =>
    by have hu := Room.hu hr; obtain ⟨cy_NoDie, yi_NoDie, iy_NoDie⟩ := T.y_NoDie; obtain ⟨cy_NoAnswer, yi_NoAnswer, iy_NoAnswer⟩ := T.y_NoAnswer; obtain ⟨cy_NoSpread, yi_NoSpread, iy_NoSpread⟩ := T.y_NoSpread; obtain ⟨cy_NoShare, yi_NoShare, iy_NoShare⟩ := T.y_NoShare; obtain ⟨cy_Unlike, yi_Unlike, iy_Unlike⟩ := T.y_Unlike; obtain ⟨cy_PastPurse, yi_PastPurse, iy_PastPurse⟩ := T.y_PastPurse; obtain ⟨cy_TooMany, yi_TooMany, iy_TooMany⟩ := T.y_TooMany; obtain ⟨cy_BadProgram, yi_BadProgram, iy_BadProgram⟩ := T.y_BadProgram; obtain ⟨cy_BadText, yi_BadText, iy_BadText⟩ := T.y_BadText; exact (dss_cons (ds_set (al := []) (i := 1) sc_l_kinds.nd rfl (by first | exact .inl rfl | exact .inr rfl) (de_of (df_lst (da_cons (de_isV iy_NoShare (dv 0) rfl T.z_isinstance rfl (pe_glob rfl yi_NoShare (v := .ref cy_NoShare) rfl) (fun u hu => hu)) (da_cons (de_isV iy_NoSpread (dv 0) rfl T.z_isinstance rfl (pe_glob rfl yi_NoSpread (v := .ref cy_NoSpread) rfl) (fun u hu => hu)) (da_cons (de_isV iy_NoAnswer (dv 0) rfl T.z_isinstance rfl (pe_glob rfl yi_NoAnswer (v := .ref cy_NoAnswer) rfl) (fun u hu => hu)) (da_cons (de_isV iy_NoDie (dv 0) rfl T.z_isinstance rfl (pe_glob rfl yi_NoDie (v := .ref cy_NoDie) rfl) (fun u hu => hu)) da_nil)))) (len_cons (len_cons (len_cons (len_cons len_nil)))) (szl (by decide))))) (dss_cons (ds_set (al := []) (i := 1) sc_l_kinds.nd rfl (by first | exact .inl rfl | exact .inr rfl) (de_bin od_add (dr (dv 1)) (dr (de_of (df_lst (da_cons (de_isV iy_TooMany (dv 0) rfl T.z_isinstance rfl (pe_glob rfl yi_TooMany (v := .ref cy_TooMany) rfl) (fun u hu => hu)) (da_cons (de_isV iy_PastPurse (dv 0) rfl T.z_isinstance rfl (pe_glob rfl yi_PastPurse (v := .ref cy_PastPurse) rfl) (fun u hu => hu)) (da_cons (de_isV iy_Unlike (dv 0) rfl T.z_isinstance rfl (pe_glob rfl yi_Unlike (v := .ref cy_Unlike) rfl) (fun u hu => hu)) da_nil))) (len_cons (len_cons (len_cons len_nil))) (szl (by decide))))))) (dss_cons (ds_ret (al := []) (de_bin od_add (dr (dv 1)) (dr (de_of (df_lst (da_cons (de_isV iy_BadText (dv 0) rfl T.z_isinstance rfl (pe_glob rfl yi_BadText (v := .ref cy_BadText) rfl) (fun u hu => hu)) (da_cons (de_isV iy_BadProgram (dv 0) rfl T.z_isinstance rfl (pe_glob rfl yi_BadProgram (v := .ref cy_BadProgram) rfl) (fun u hu => hu)) da_nil)) (len_cons (len_cons len_nil)) (szl (by decide))))))) dss_nil)))
abbrev N_l_whole : List Str := ["_law_found"]
theorem sc_l_whole : FnScope N_l_whole ["_law_found"] (defScope s_l_whole) := ⟨rfl, rfl, rfl, by decide +kernel, rfl, by decide +kernel, by decide +kernel⟩
theorem ok_l_whole {P : Program} {w : World} {K : PySem.W.Frag} {mg : Str → Option Value} {base : Heap} {f : Addr} {fd : FuncData} (T : Txt K mg) (F : Fun K "_law_whole" "_law_whole" s_l_whole f fd)  :
    FnOk P w K mg base (L2.CX P w) 1 f fd ["_law_found"] (spD K mg 1 F_l_whole) :=
  fnD (N := N_l_whole) (k := 0) (fb := b_l_whole) F sc_l_whole fun cdv A outer s H G E hr tk hp =>
    by exact (dss_cons (ds_ret (al := []) (de_and (de_isi is_int rfl T.z_isinstance rfl (dr (dv 0)) rfl T.z_int rfl) (de_one (de_not (de_isi is_bool rfl T.z_isinstance rfl (dr (dv 0)) rfl T.z_bool rfl))))) dss_nil)
abbrev N_law : List Str := ["_law_script", "_law_cells", "_law_k", "_law_cell", "_law_row", "_law_at", "_law_why", "_law_kind", "_law_e", "_law_j"]
theorem sc_law : FnScope N_law ["_law_script"] (defScope s_law) := ⟨rfl, rfl, rfl, by decide +kernel, rfl, by decide +kernel, by decide +kernel⟩
theorem ok_law {P : Program} {w : World} {K : PySem.W.Frag} {mg : Str → Option Value} {base : Heap} {f : Addr} {fd : FuncData} (T : Txt K mg) (F : Fun K "law" "law" s_law f fd) (c_l_made : CallOk P w K mg base 3 "_law_made" ["_law_kind", "_law_words", "_law_row", "_law_at", "_law_why"] F_l_made) (c_l_kinds : CallOk P w K mg base 3 "_law_kinds" ["_law_e"] F_l_kinds) (c_l_whole : CallOk P w K mg base 3 "_law_whole" ["_law_found"] F_l_whole) :
    FnOk P w K mg base (L2.CX P w) 4 f fd ["_law_script"] (spD K mg 1 F_law) :=
  fnD (N := N_law) (k := 3) (fb := b_law) F sc_law fun cdv A outer s H G E hr tk hp =>
    by have hu := Room.hu hr; obtain ⟨cy_BlurError, yi_BlurError, iy_BlurError⟩ := T.y_BlurError; exact (dss_cons (ds_set (al := []) (i := 1) sc_law.nd rfl (by first | exact .inl rfl | exact .inr rfl) (de_bin od_add (dr (dv 0)) (dr (de_of (df_lst (da_cons de_int (da_cons de_int (da_cons de_int da_nil))) (len_cons (len_cons (len_cons len_nil))) (szl (by decide))))))) (dss_cons (ds_for (al := []) hp rfl (di_range1 rfl T.z_range (de_b1 c1_len rfl T.z_len rfl (dr (dv 1)))) (dg_name (i := 2) sc_law.nd rfl (by first | exact .inl rfl | exact .inr rfl)) (fun _ => (dss_cons (ds_set (al := []) (i := 3) sc_law.nd rfl (by first | exact .inl rfl | exact .inr rfl) (de_ixA hr.hu1 (dr (dv 1)) (dv 2) (fun _ _ => rfl) (fun _ _ => rfl))) (dss_cons (ds_set (al := []) (i := 4) sc_law.nd rfl (by first | exact .inl rfl | exact .inr rfl) (de_bin od_mod (dr (de_ixA hr.hu1 (dr (dv 1)) (de_bin od_sub (dr (dv 2)) (dr de_int)) (fun _ _ => rfl) (fun _ _ => rfl))) (dr (de_bin od_pow (dr de_int) (dr de_int))))) (dss_cons (ds_set (al := []) (i := 5) sc_law.nd rfl (by first | exact .inl rfl | exact .inr rfl) (de_cut (dr (de_tup (da_cons (de_bin od_mod (dr (dv 3)) (dr de_int)) (da_cons (de_bin od_mod (dr (de_bin od_div (dr (dv 3)) (dr de_int))) (dr de_int)) da_nil)) (len_cons (len_cons len_nil)) (szl (by decide)))) do_none (do_some (de_bin od_mod (dr (de_bin od_div (dr (dv 3)) (dr de_int))) (dr de_int))))) (dss_cons (ds_set (al := []) (i := 6) sc_law.nd rfl (by first | exact .inl rfl | exact .inr rfl) (de_ixA hr.hu1 (dr (de_of (df_lst (da_cons de_str (da_cons de_str (da_cons de_str (da_cons de_str da_nil)))) (len_cons (len_cons (len_cons (len_cons len_nil)))) (szl (by decide))))) (de_bin od_mod (dr (de_bin od_div (dr (dv 3)) (dr de_int))) (dr de_int)) (fun _ _ => rfl) (fun _ _ => rfl))) (dss_cons (ds_set (al := []) (i := 7) sc_law.nd rfl (by first | exact .inl rfl | exact .inr rfl) (de_bin od_mod (dr (de_bin od_add (dr (dv 3)) (dr (dv 2)))) (dr de_int))) (dss_cons (ds_set (al := []) (i := 8) sc_law.nd rfl (by first | exact .inl rfl | exact .inr rfl) (de_callE c_l_made hr rfl tk (da_cons (dv 7) (da_cons de_str (da_cons (dv 4) (da_cons (dv 5) (da_cons (dv 6) da_nil))))) (leq_cons (leq_cons (leq_cons (leq_cons (leq_cons leq_nil))))))) (dss_cons (ds_if (al := []) (dt_w (dw_or (dt_cmp (od_ne hu) (dr (de_callE c_l_kinds hr rfl tk (da_cons (dv 8) da_nil) (leq_cons leq_nil))) (dr (de_of (df_comp (own := [("_law_j", 9)]) rfl sc_law.nd (dir_of (di_range1 rfl T.z_range de_int)) (blkOk_by (N := N_law) (sc := defScope s_law) (by decide +kernel)) (fun _ _ _ _ _ => (dg_name (i := 9) sc_law.nd rfl (by first | exact .inl rfl | exact .inr rfl))) (fun _ _ _ _ _ => dts_nil) (fun _ _ _ _ _ => (de_cmp (od_eq hu) (dr (dv 9)) (dr (dv 7)) (nomark _))) (by decide)))) (nomark _)) (dw_or1 (dt_not (dt_truth (dr (de_isV iy_BlurError (dv 8) rfl T.z_isinstance rfl (pe_glob rfl yi_BlurError (v := .ref cy_BlurError) rfl) (fun u hu => hu))) (fun _ => rfl)))))) (dss_cons (ds_ret (al := []) de_bl) dss_nil) dss_nil) (dss_cons (ds_if (al := []) (dt_not (dt_truth (dr (de_isV T.y_ValueError (dv 8) rfl T.z_isinstance rfl (pe_bltn rfl T.z_ValueError rfl (v := .ty "ValueError") rfl) (fun u hu => hu))) (fun _ => rfl))) (dss_cons (ds_ret (al := []) de_bl) dss_nil) dss_nil) (dss_cons (ds_if (al := []) (dt_w (dw_and (dt_cmp (od_eq hu) (dr (dv 7)) (dr de_int) (nomark _)) (dw_and1 (dt_w (dw_or (dt_not (dt_truth (dr (de_callE c_l_whole hr rfl tk (da_cons (de_fldV T.m_row (dv 8)) da_nil) (leq_cons leq_nil))) (fun _ => rfl))) (dw_or1 (dt_cmp (od_ne hu) (dr (de_fldV T.m_row (dv 8))) (dr (dv 4)) (nomark _)))))))) (dss_cons (ds_ret (al := []) de_bl) dss_nil) dss_nil) (dss_cons (ds_if (al := []) (dt_w (dw_and (dt_cmp (od_eq hu) (dr (dv 7)) (dr de_int) (nomark _)) (dw_and1 (dt_w (dw_or (dt_cmp (od_ne hu) (dr (de_fldV T.m_at (dv 8))) (dr (dv 5)) (nomark _)) (dw_or (dt_not (dt_truth (dr (de_isi is_tup rfl T.z_isinstance rfl (dr (de_fldV T.m_at (dv 8))) rfl T.z_tuple rfl)) (fun _ => rfl))) (dw_or1 (dt_cmp (od_ne hu) (dr (de_fldV T.m_why (dv 8))) (dr (dv 6)) (nomark _))))))))) (dss_cons (ds_ret (al := []) de_bl) dss_nil) dss_nil) dss_nil)))))))))))) (dss_cons (ds_ret (al := []) de_bl) dss_nil)))
end DLaw
namespace DLaw
open PySem PySem.Spec PyProof.Rows L2
open DL
theorem all_mk {P : Program} {w : World} {K : PySem.W.Frag} {h : Heap} {mg : Str → Option Value} {fa : Addr} (X : K.In h) (G : h.Ns mainGlobals mg) (hfa : mg "law" = some (.ref fa))
    {f1 f2 f3 f4 : Addr} {od1 an1 od2 an2 od3 an3 od4 an4 : Option Addr} {sl1 sl2 sl3 sl4 : Array (Option Value)} {oc1 kV1 dc1 pm1 cd1 ct1 oc2 kV2 dc2 pm2 cd2 ct2 oc3 kV3 dc3 pm3 cd3 ct3 oc4 kV4 dc4 pm4 cd4 ct4 : Value}
    {C_NoShare : Addr} {C_NoSpread : Addr} {C_NoAnswer : Addr} {C_NoDie : Addr} {C_TooMany : Addr} {C_PastPurse : Addr} {C_Unlike : Addr} {C_BadText : Addr} {C_BadProgram : Addr} {C_BlurError : Addr} {fI_BadText : Addr} {oI_BadText dI_BadText : Value} {odI_BadText anI_BadText : Option Addr} {kI_BadText mI_BadText cI_BadText tI_BadText : Value} {sI_BadText : Array (Option Value)} {fI_BadProgram : Addr} {oI_BadProgram dI_BadProgram : Value} {odI_BadProgram anI_BadProgram : Option Addr} {kI_BadProgram mI_BadProgram cI_BadProgram tI_BadProgram : Value} {sI_BadProgram : Array (Option Value)}
    (a1 : PySem.W.nsIn K mainGlobals "_law_made" = some (some (.ref f1))) (l1 : K.lookup f1 = some ⟨oc1, od1, .func (PySem.W.fnOf "_law_made" "_law_made" (defArgs s_l_made) (defBody s_l_made) (defScope s_l_made) .none kV1 dc1 pm1 an1 cd1 ct1), sl1⟩) (c1 : PySem.W.codeIn K cd1 "_law_made" = true) (k1 : PySem.W.keepIn K (.ref f1) = true)
    (a2 : PySem.W.nsIn K mainGlobals "_law_kinds" = some (some (.ref f2))) (l2 : K.lookup f2 = some ⟨oc2, od2, .func (PySem.W.fnOf "_law_kinds" "_law_kinds" (defArgs s_l_kinds) (defBody s_l_kinds) (defScope s_l_kinds) .none kV2 dc2 pm2 an2 cd2 ct2), sl2⟩) (c2 : PySem.W.codeIn K cd2 "_law_kinds" = true) (k2 : PySem.W.keepIn K (.ref f2) = true)
    (a3 : PySem.W.nsIn K mainGlobals "_law_whole" = some (some (.ref f3))) (l3 : K.lookup f3 = some ⟨oc3, od3, .func (PySem.W.fnOf "_law_whole" "_law_whole" (defArgs s_l_whole) (defBody s_l_whole) (defScope s_l_whole) .none kV3 dc3 pm3 an3 cd3 ct3), sl3⟩) (c3 : PySem.W.codeIn K cd3 "_law_whole" = true) (k3 : PySem.W.keepIn K (.ref f3) = true)
    (a4 : PySem.W.nsIn K mainGlobals "law" = some (some (.ref f4))) (l4 : K.lookup f4 = some ⟨oc4, od4, .func (PySem.W.fnOf "law" "law" (defArgs s_law) (defBody s_law) (defScope s_law) .none kV4 dc4 pm4 an4 cd4 ct4), sl4⟩) (c4 : PySem.W.codeIn K cd4 "law" = true) (k4 : PySem.W.keepIn K (.ref f4) = true)
    (z1 : PySem.W.nsIn K mainGlobals "isinstance" = some none)
    (z2 : PySem.W.nsIn K mainGlobals "int" = some none)
    (z3 : PySem.W.nsIn K mainGlobals "bool" = some none)
    (z4 : PySem.W.nsIn K mainGlobals "len" = some none)
    (z5 : PySem.W.nsIn K mainGlobals "range" = some none)
    (z6 : PySem.W.nsIn K mainGlobals "ValueError" = some none)
    (z7 : PySem.W.nsIn K mainGlobals "tuple" = some none)
    (g_NoShare : PySem.W.nsIn K mainGlobals "NoShare" = some (some (.ref C_NoShare))) (u_NoShare : PySem.W.subIn K (.ref C_NoShare) (.type "BaseException") = some true) (t_NoShare : PySem.W.typeIn K (.ref C_NoShare) = some (.type "type"))
    (x_NoShare : PySem.W.excIn K C_NoShare [.type "ValueError", .type "Exception", .type "BaseException", .type "object"] "ValueError.__new__" = true) (e_NoShare : PySem.W.keepIn K (.ref C_NoShare) = true)
    (i_NoShare : PySem.W.isClsIn K C_NoShare = true)
    (g_NoSpread : PySem.W.nsIn K mainGlobals "NoSpread" = some (some (.ref C_NoSpread))) (u_NoSpread : PySem.W.subIn K (.ref C_NoSpread) (.type "BaseException") = some true) (t_NoSpread : PySem.W.typeIn K (.ref C_NoSpread) = some (.type "type"))
    (x_NoSpread : PySem.W.excIn K C_NoSpread [.type "ValueError", .type "Exception", .type "BaseException", .type "object"] "ValueError.__new__" = true) (e_NoSpread : PySem.W.keepIn K (.ref C_NoSpread) = true)
    (i_NoSpread : PySem.W.isClsIn K C_NoSpread = true)
    (g_NoAnswer : PySem.W.nsIn K mainGlobals "NoAnswer" = some (some (.ref C_NoAnswer))) (u_NoAnswer : PySem.W.subIn K (.ref C_NoAnswer) (.type "BaseException") = some true) (t_NoAnswer : PySem.W.typeIn K (.ref C_NoAnswer) = some (.type "type"))
    (x_NoAnswer : PySem.W.excIn K C_NoAnswer [.type "ValueError", .type "Exception", .type "BaseException", .type "object"] "ValueError.__new__" = true) (e_NoAnswer : PySem.W.keepIn K (.ref C_NoAnswer) = true)
    (i_NoAnswer : PySem.W.isClsIn K C_NoAnswer = true)
    (g_NoDie : PySem.W.nsIn K mainGlobals "NoDie" = some (some (.ref C_NoDie))) (u_NoDie : PySem.W.subIn K (.ref C_NoDie) (.type "BaseException") = some true) (t_NoDie : PySem.W.typeIn K (.ref C_NoDie) = some (.type "type"))
    (x_NoDie : PySem.W.excIn K C_NoDie [.type "ValueError", .type "Exception", .type "BaseException", .type "object"] "ValueError.__new__" = true) (e_NoDie : PySem.W.keepIn K (.ref C_NoDie) = true)
    (i_NoDie : PySem.W.isClsIn K C_NoDie = true)
    (g_TooMany : PySem.W.nsIn K mainGlobals "TooMany" = some (some (.ref C_TooMany))) (u_TooMany : PySem.W.subIn K (.ref C_TooMany) (.type "BaseException") = some true) (t_TooMany : PySem.W.typeIn K (.ref C_TooMany) = some (.type "type"))
    (x_TooMany : PySem.W.excIn K C_TooMany [.type "ValueError", .type "Exception", .type "BaseException", .type "object"] "ValueError.__new__" = true) (e_TooMany : PySem.W.keepIn K (.ref C_TooMany) = true)
    (i_TooMany : PySem.W.isClsIn K C_TooMany = true)
    (g_PastPurse : PySem.W.nsIn K mainGlobals "PastPurse" = some (some (.ref C_PastPurse))) (u_PastPurse : PySem.W.subIn K (.ref C_PastPurse) (.type "BaseException") = some true) (t_PastPurse : PySem.W.typeIn K (.ref C_PastPurse) = some (.type "type"))
    (x_PastPurse : PySem.W.excIn K C_PastPurse [.type "ValueError", .type "Exception", .type "BaseException", .type "object"] "ValueError.__new__" = true) (e_PastPurse : PySem.W.keepIn K (.ref C_PastPurse) = true)
    (i_PastPurse : PySem.W.isClsIn K C_PastPurse = true)
    (g_Unlike : PySem.W.nsIn K mainGlobals "Unlike" = some (some (.ref C_Unlike))) (u_Unlike : PySem.W.subIn K (.ref C_Unlike) (.type "BaseException") = some true) (t_Unlike : PySem.W.typeIn K (.ref C_Unlike) = some (.type "type"))
    (x_Unlike : PySem.W.excIn K C_Unlike [.type "ValueError", .type "Exception", .type "BaseException", .type "object"] "ValueError.__new__" = true) (e_Unlike : PySem.W.keepIn K (.ref C_Unlike) = true)
    (i_Unlike : PySem.W.isClsIn K C_Unlike = true)
    (g_BadText : PySem.W.nsIn K mainGlobals "BadText" = some (some (.ref C_BadText))) (u_BadText : PySem.W.subIn K (.ref C_BadText) (.type "BaseException") = some true) (t_BadText : PySem.W.typeIn K (.ref C_BadText) = some (.type "type"))
    (i_BadText : PySem.W.isClsIn K C_BadText = true)
    (g_BadProgram : PySem.W.nsIn K mainGlobals "BadProgram" = some (some (.ref C_BadProgram))) (u_BadProgram : PySem.W.subIn K (.ref C_BadProgram) (.type "BaseException") = some true) (t_BadProgram : PySem.W.typeIn K (.ref C_BadProgram) = some (.type "type"))
    (i_BadProgram : PySem.W.isClsIn K C_BadProgram = true)
    (g_BlurError : PySem.W.nsIn K mainGlobals "BlurError" = some (some (.ref C_BlurError))) (u_BlurError : PySem.W.subIn K (.ref C_BlurError) (.type "BaseException") = some true) (t_BlurError : PySem.W.typeIn K (.ref C_BlurError) = some (.type "type"))
    (i_BlurError : PySem.W.isClsIn K C_BlurError = true)
    (e_BadText : PySem.W.keepIn K (.ref C_BadText) = true) (oe_BadText : oexB K C_BadText = true) (sa_BadText : PySem.W.findIn K (.ref C_BadText) "__setattr__" = some (some (.builtin "object.__setattr__"))) (in_BadText : PySem.W.findIn K (.ref C_BadText) "__init__" = some (some (.ref fI_BadText))) (li_BadText : K.lookup fI_BadText = some ⟨oI_BadText, odI_BadText, .func (PySem.W.fnOf "__init__" "BadText.__init__" (defArgs s_BadText_init) (defBody s_BadText_init) (defScope s_BadText_init) .none kI_BadText dI_BadText mI_BadText anI_BadText cI_BadText tI_BadText), sI_BadText⟩) (ci_BadText : PySem.W.codeIn K cI_BadText "BadText.__init__" = true) (ki_BadText : PySem.W.keepIn K (.ref fI_BadText) = true) (ti_BadText : PySem.W.typeIn K (.ref fI_BadText) = some (.type "function"))
    (na_BadText_row : PySem.W.findIn K (.ref C_BadText) "row" = some none)
    (e_BadProgram : PySem.W.keepIn K (.ref C_BadProgram) = true) (oe_BadProgram : oexB K C_BadProgram = true) (sa_BadProgram : PySem.W.findIn K (.ref C_BadProgram) "__setattr__" = some (some (.builtin "object.__setattr__"))) (in_BadProgram : PySem.W.findIn K (.ref C_BadProgram) "__init__" = some (some (.ref fI_BadProgram))) (li_BadProgram : K.lookup fI_BadProgram = some ⟨oI_BadProgram, odI_BadProgram, .func (PySem.W.fnOf "__init__" "BadProgram.__init__" (defArgs s_BadProgram_init) (defBody s_BadProgram_init) (defScope s_BadProgram_init) .none kI_BadProgram dI_BadProgram mI_BadProgram anI_BadProgram cI_BadProgram tI_BadProgram), sI_BadProgram⟩) (ci_BadProgram : PySem.W.codeIn K cI_BadProgram "BadProgram.__init__" = true) (ki_BadProgram : PySem.W.keepIn K (.ref fI_BadProgram) = true) (ti_BadProgram : PySem.W.typeIn K (.ref fI_BadProgram) = some (.type "function"))
    (na_BadProgram_at : PySem.W.findIn K (.ref C_BadProgram) "at" = some none)
    (na_BadProgram_why : PySem.W.findIn K (.ref C_BadProgram) "why" = some none)
    (bsp : PySem.W.specialIn K (.ref C_BlurError) "__getattribute__" = some (some (.builtin "type.__getattribute__"))) (brd : PySem.W.readsIn K C_BlurError (.type "type") = true) (bfc : PySem.W.findCls K (.ref C_BlurError) (.type "type") "__init__" = some (.val (.builtin "ValueError.__init__")))
    (v1_NoShare : PySem.W.findIn K (.ref C_NoShare) "__getattribute__" = some (some (.builtin "BaseException.__getattribute__"))) (v2_NoShare : PySem.W.findIn K (.ref C_NoShare) "__getattr__" = some none) (v3_NoShare : PySem.W.hasDictIn K C_NoShare = true) (v4_NoShare : PySem.W.findIn K (.ref C_NoShare) "__class__" = some (some (.builtin "object.__class__"))) (v5_NoShare : PySem.W.specialIn K (.builtin "object.__class__") "__get__" = some (some (.builtin "getset_descriptor.__get__"))) (v6_NoShare : PySem.W.takesIn K (.builtin "object.__class__") = some true) (v7_NoShare : PySem.W.mroIn K C_NoShare (.type "object") = some true)
    (v1_NoSpread : PySem.W.findIn K (.ref C_NoSpread) "__getattribute__" = some (some (.builtin "BaseException.__getattribute__"))) (v2_NoSpread : PySem.W.findIn K (.ref C_NoSpread) "__getattr__" = some none) (v3_NoSpread : PySem.W.hasDictIn K C_NoSpread = true) (v4_NoSpread : PySem.W.findIn K (.ref C_NoSpread) "__class__" = some (some (.builtin "object.__class__"))) (v5_NoSpread : PySem.W.specialIn K (.builtin "object.__class__") "__get__" = some (some (.builtin "getset_descriptor.__get__"))) (v6_NoSpread : PySem.W.takesIn K (.builtin "object.__class__") = some true) (v7_NoSpread : PySem.W.mroIn K C_NoSpread (.type "object") = some true)
    (v1_NoAnswer : PySem.W.findIn K (.ref C_NoAnswer) "__getattribute__" = some (some (.builtin "BaseException.__getattribute__"))) (v2_NoAnswer : PySem.W.findIn K (.ref C_NoAnswer) "__getattr__" = some none) (v3_NoAnswer : PySem.W.hasDictIn K C_NoAnswer = true) (v4_NoAnswer : PySem.W.findIn K (.ref C_NoAnswer) "__class__" = some (some (.builtin "object.__class__"))) (v5_NoAnswer : PySem.W.specialIn K (.builtin "object.__class__") "__get__" = some (some (.builtin "getset_descriptor.__get__"))) (v6_NoAnswer : PySem.W.takesIn K (.builtin "object.__class__") = some true) (v7_NoAnswer : PySem.W.mroIn K C_NoAnswer (.type "object") = some true)
    (v1_NoDie : PySem.W.findIn K (.ref C_NoDie) "__getattribute__" = some (some (.builtin "BaseException.__getattribute__"))) (v2_NoDie : PySem.W.findIn K (.ref C_NoDie) "__getattr__" = some none) (v3_NoDie : PySem.W.hasDictIn K C_NoDie = true) (v4_NoDie : PySem.W.findIn K (.ref C_NoDie) "__class__" = some (some (.builtin "object.__class__"))) (v5_NoDie : PySem.W.specialIn K (.builtin "object.__class__") "__get__" = some (some (.builtin "getset_descriptor.__get__"))) (v6_NoDie : PySem.W.takesIn K (.builtin "object.__class__") = some true) (v7_NoDie : PySem.W.mroIn K C_NoDie (.type "object") = some true)
    (v1_TooMany : PySem.W.findIn K (.ref C_TooMany) "__getattribute__" = some (some (.builtin "BaseException.__getattribute__"))) (v2_TooMany : PySem.W.findIn K (.ref C_TooMany) "__getattr__" = some none) (v3_TooMany : PySem.W.hasDictIn K C_TooMany = true) (v4_TooMany : PySem.W.findIn K (.ref C_TooMany) "__class__" = some (some (.builtin "object.__class__"))) (v5_TooMany : PySem.W.specialIn K (.builtin "object.__class__") "__get__" = some (some (.builtin "getset_descriptor.__get__"))) (v6_TooMany : PySem.W.takesIn K (.builtin "object.__class__") = some true) (v7_TooMany : PySem.W.mroIn K C_TooMany (.type "object") = some true)
    (v1_PastPurse : PySem.W.findIn K (.ref C_PastPurse) "__getattribute__" = some (some (.builtin "BaseException.__getattribute__"))) (v2_PastPurse : PySem.W.findIn K (.ref C_PastPurse) "__getattr__" = some none) (v3_PastPurse : PySem.W.hasDictIn K C_PastPurse = true) (v4_PastPurse : PySem.W.findIn K (.ref C_PastPurse) "__class__" = some (some (.builtin "object.__class__"))) (v5_PastPurse : PySem.W.specialIn K (.builtin "object.__class__") "__get__" = some (some (.builtin "getset_descriptor.__get__"))) (v6_PastPurse : PySem.W.takesIn K (.builtin "object.__class__") = some true) (v7_PastPurse : PySem.W.mroIn K C_PastPurse (.type "object") = some true)
    (v1_Unlike : PySem.W.findIn K (.ref C_Unlike) "__getattribute__" = some (some (.builtin "BaseException.__getattribute__"))) (v2_Unlike : PySem.W.findIn K (.ref C_Unlike) "__getattr__" = some none) (v3_Unlike : PySem.W.hasDictIn K C_Unlike = true) (v4_Unlike : PySem.W.findIn K (.ref C_Unlike) "__class__" = some (some (.builtin "object.__class__"))) (v5_Unlike : PySem.W.specialIn K (.builtin "object.__class__") "__get__" = some (some (.builtin "getset_descriptor.__get__"))) (v6_Unlike : PySem.W.takesIn K (.builtin "object.__class__") = some true) (v7_Unlike : PySem.W.mroIn K C_Unlike (.type "object") = some true)
    (v1_BadText : PySem.W.findIn K (.ref C_BadText) "__getattribute__" = some (some (.builtin "BaseException.__getattribute__"))) (v2_BadText : PySem.W.findIn K (.ref C_BadText) "__getattr__" = some none) (v3_BadText : PySem.W.hasDictIn K C_BadText = true) (v4_BadText : PySem.W.findIn K (.ref C_BadText) "__class__" = some (some (.builtin "object.__class__"))) (v5_BadText : PySem.W.specialIn K (.builtin "object.__class__") "__get__" = some (some (.builtin "getset_descriptor.__get__"))) (v6_BadText : PySem.W.takesIn K (.builtin "object.__class__") = some true) (v7_BadText : PySem.W.mroIn K C_BadText (.type "object") = some true)
    (v1_BadProgram : PySem.W.findIn K (.ref C_BadProgram) "__getattribute__" = some (some (.builtin "BaseException.__getattribute__"))) (v2_BadProgram : PySem.W.findIn K (.ref C_BadProgram) "__getattr__" = some none) (v3_BadProgram : PySem.W.hasDictIn K C_BadProgram = true) (v4_BadProgram : PySem.W.findIn K (.ref C_BadProgram) "__class__" = some (some (.builtin "object.__class__"))) (v5_BadProgram : PySem.W.specialIn K (.builtin "object.__class__") "__get__" = some (some (.builtin "getset_descriptor.__get__"))) (v6_BadProgram : PySem.W.takesIn K (.builtin "object.__class__") = some true) (v7_BadProgram : PySem.W.mroIn K C_BadProgram (.type "object") = some true)
    (n_NoShare_NoDie : (Value.ref C_NoShare == Value.ref C_NoDie) = false)
    (s_NoShare_NoDie : PySem.W.subIn K (.ref C_NoShare) (.ref C_NoDie) = some false)
    (n_NoSpread_NoDie : (Value.ref C_NoSpread == Value.ref C_NoDie) = false)
    (s_NoSpread_NoDie : PySem.W.subIn K (.ref C_NoSpread) (.ref C_NoDie) = some false)
    (n_NoAnswer_NoDie : (Value.ref C_NoAnswer == Value.ref C_NoDie) = false)
    (s_NoAnswer_NoDie : PySem.W.subIn K (.ref C_NoAnswer) (.ref C_NoDie) = some false)
    (s_NoDie_NoDie : PySem.W.subIn K (.ref C_NoDie) (.ref C_NoDie) = some true)
    (n_TooMany_NoDie : (Value.ref C_TooMany == Value.ref C_NoDie) = false)
    (s_TooMany_NoDie : PySem.W.subIn K (.ref C_TooMany) (.ref C_NoDie) = some false)
    (n_PastPurse_NoDie : (Value.ref C_PastPurse == Value.ref C_NoDie) = false)
    (s_PastPurse_NoDie : PySem.W.subIn K (.ref C_PastPurse) (.ref C_NoDie) = some false)
    (n_Unlike_NoDie : (Value.ref C_Unlike == Value.ref C_NoDie) = false)
    (s_Unlike_NoDie : PySem.W.subIn K (.ref C_Unlike) (.ref C_NoDie) = some false)
    (n_BadText_NoDie : (Value.ref C_BadText == Value.ref C_NoDie) = false)
    (s_BadText_NoDie : PySem.W.subIn K (.ref C_BadText) (.ref C_NoDie) = some false)
    (n_BadProgram_NoDie : (Value.ref C_BadProgram == Value.ref C_NoDie) = false)
    (s_BadProgram_NoDie : PySem.W.subIn K (.ref C_BadProgram) (.ref C_NoDie) = some false)
    (n_NoShare_NoAnswer : (Value.ref C_NoShare == Value.ref C_NoAnswer) = false)
    (s_NoShare_NoAnswer : PySem.W.subIn K (.ref C_NoShare) (.ref C_NoAnswer) = some false)
    (n_NoSpread_NoAnswer : (Value.ref C_NoSpread == Value.ref C_NoAnswer) = false)
    (s_NoSpread_NoAnswer : PySem.W.subIn K (.ref C_NoSpread) (.ref C_NoAnswer) = some false)
    (s_NoAnswer_NoAnswer : PySem.W.subIn K (.ref C_NoAnswer) (.ref C_NoAnswer) = some true)
    (n_NoDie_NoAnswer : (Value.ref C_NoDie == Value.ref C_NoAnswer) = false)
    (s_NoDie_NoAnswer : PySem.W.subIn K (.ref C_NoDie) (.ref C_NoAnswer) = some false)
    (n_TooMany_NoAnswer : (Value.ref C_TooMany == Value.ref C_NoAnswer) = false)
    (s_TooMany_NoAnswer : PySem.W.subIn K (.ref C_TooMany) (.ref C_NoAnswer) = some false)
    (n_PastPurse_NoAnswer : (Value.ref C_PastPurse == Value.ref C_NoAnswer) = false)
    (s_PastPurse_NoAnswer : PySem.W.subIn K (.ref C_PastPurse) (.ref C_NoAnswer) = some false)
    (n_Unlike_NoAnswer : (Value.ref C_Unlike == Value.ref C_NoAnswer) = false)
    (s_Unlike_NoAnswer : PySem.W.subIn K (.ref C_Unlike) (.ref C_NoAnswer) = some false)
    (n_BadText_NoAnswer : (Value.ref C_BadText == Value.ref C_NoAnswer) = false)
    (s_BadText_NoAnswer : PySem.W.subIn K (.ref C_BadText) (.ref C_NoAnswer) = some false)
    (n_BadProgram_NoAnswer : (Value.ref C_BadProgram == Value.ref C_NoAnswer) = false)
    (s_BadProgram_NoAnswer : PySem.W.subIn K (.ref C_BadProgram) (.ref C_NoAnswer) = some false)
    (n_NoShare_NoSpread : (Value.ref C_NoShare == Value.ref C_NoSpread) = false)
    (s_NoShare_NoSpread : PySem.W.subIn K (.ref C_NoShare) (.ref C_NoSpread) = some false)
    (s_NoSpread_NoSpread : PySem.W.subIn K (.ref C_NoSpread) (.ref C_NoSpread) = some true)
    (n_NoAnswer_NoSpread : (Value.ref C_NoAnswer == Value.ref C_NoSpread) = false)
    (s_NoAnswer_NoSpread : PySem.W.subIn K (.ref C_NoAnswer) (.ref C_NoSpread) = some false)
    (n_NoDie_NoSpread : (Value.ref C_NoDie == Value.ref C_NoSpread) = false)
    (s_NoDie_NoSpread : PySem.W.subIn K (.ref C_NoDie) (.ref C_NoSpread) = some false)
    (n_TooMany_NoSpread : (Value.ref C_TooMany == Value.ref C_NoSpread) = false)
    (s_TooMany_NoSpread : PySem.W.subIn K (.ref C_TooMany) (.ref C_NoSpread) = some false)
    (n_PastPurse_NoSpread : (Value.ref C_PastPurse == Value.ref C_NoSpread) = false)
    (s_PastPurse_NoSpread : PySem.W.subIn K (.ref C_PastPurse) (.ref C_NoSpread) = some false)
    (n_Unlike_NoSpread : (Value.ref C_Unlike == Value.ref C_NoSpread) = false)
    (s_Unlike_NoSpread : PySem.W.subIn K (.ref C_Unlike) (.ref C_NoSpread) = some false)
    (n_BadText_NoSpread : (Value.ref C_BadText == Value.ref C_NoSpread) = false)
    (s_BadText_NoSpread : PySem.W.subIn K (.ref C_BadText) (.ref C_NoSpread) = some false)
    (n_BadProgram_NoSpread : (Value.ref C_BadProgram == Value.ref C_NoSpread) = false)
    (s_BadProgram_NoSpread : PySem.W.subIn K (.ref C_BadProgram) (.ref C_NoSpread) = some false)
    (s_NoShare_NoShare : PySem.W.subIn K (.ref C_NoShare) (.ref C_NoShare) = some true)
    (n_NoSpread_NoShare : (Value.ref C_NoSpread == Value.ref C_NoShare) = false)
    (s_NoSpread_NoShare : PySem.W.subIn K (.ref C_NoSpread) (.ref C_NoShare) = some false)
    (n_NoAnswer_NoShare : (Value.ref C_NoAnswer == Value.ref C_NoShare) = false)
    (s_NoAnswer_NoShare : PySem.W.subIn K (.ref C_NoAnswer) (.ref C_NoShare) = some false)
    (n_NoDie_NoShare : (Value.ref C_NoDie == Value.ref C_NoShare) = false)
    (s_NoDie_NoShare : PySem.W.subIn K (.ref C_NoDie) (.ref C_NoShare) = some false)
    (n_TooMany_NoShare : (Value.ref C_TooMany == Value.ref C_NoShare) = false)
    (s_TooMany_NoShare : PySem.W.subIn K (.ref C_TooMany) (.ref C_NoShare) = some false)
    (n_PastPurse_NoShare : (Value.ref C_PastPurse == Value.ref C_NoShare) = false)
    (s_PastPurse_NoShare : PySem.W.subIn K (.ref C_PastPurse) (.ref C_NoShare) = some false)
    (n_Unlike_NoShare : (Value.ref C_Unlike == Value.ref C_NoShare) = false)
    (s_Unlike_NoShare : PySem.W.subIn K (.ref C_Unlike) (.ref C_NoShare) = some false)
    (n_BadText_NoShare : (Value.ref C_BadText == Value.ref C_NoShare) = false)
    (s_BadText_NoShare : PySem.W.subIn K (.ref C_BadText) (.ref C_NoShare) = some false)
    (n_BadProgram_NoShare : (Value.ref C_BadProgram == Value.ref C_NoShare) = false)
    (s_BadProgram_NoShare : PySem.W.subIn K (.ref C_BadProgram) (.ref C_NoShare) = some false)
    (n_NoShare_Unlike : (Value.ref C_NoShare == Value.ref C_Unlike) = false)
    (s_NoShare_Unlike : PySem.W.subIn K (.ref C_NoShare) (.ref C_Unlike) = some false)
    (n_NoSpread_Unlike : (Value.ref C_NoSpread == Value.ref C_Unlike) = false)
    (s_NoSpread_Unlike : PySem.W.subIn K (.ref C_NoSpread) (.ref C_Unlike) = some false)
    (n_NoAnswer_Unlike : (Value.ref C_NoAnswer == Value.ref C_Unlike) = false)
    (s_NoAnswer_Unlike : PySem.W.subIn K (.ref C_NoAnswer) (.ref C_Unlike) = some false)
    (n_NoDie_Unlike : (Value.ref C_NoDie == Value.ref C_Unlike) = false)
    (s_NoDie_Unlike : PySem.W.subIn K (.ref C_NoDie) (.ref C_Unlike) = some false)
    (n_TooMany_Unlike : (Value.ref C_TooMany == Value.ref C_Unlike) = false)
    (s_TooMany_Unlike : PySem.W.subIn K (.ref C_TooMany) (.ref C_Unlike) = some false)
    (n_PastPurse_Unlike : (Value.ref C_PastPurse == Value.ref C_Unlike) = false)
    (s_PastPurse_Unlike : PySem.W.subIn K (.ref C_PastPurse) (.ref C_Unlike) = some false)
    (s_Unlike_Unlike : PySem.W.subIn K (.ref C_Unlike) (.ref C_Unlike) = some true)
    (n_BadText_Unlike : (Value.ref C_BadText == Value.ref C_Unlike) = false)
    (s_BadText_Unlike : PySem.W.subIn K (.ref C_BadText) (.ref C_Unlike) = some false)
    (n_BadProgram_Unlike : (Value.ref C_BadProgram == Value.ref C_Unlike) = false)
    (s_BadProgram_Unlike : PySem.W.subIn K (.ref C_BadProgram) (.ref C_Unlike) = some false)
    (n_NoShare_PastPurse : (Value.ref C_NoShare == Value.ref C_PastPurse) = false)
    (s_NoShare_PastPurse : PySem.W.subIn K (.ref C_NoShare) (.ref C_PastPurse) = some false)
    (n_NoSpread_PastPurse : (Value.ref C_NoSpread == Value.ref C_PastPurse) = false)
    (s_NoSpread_PastPurse : PySem.W.subIn K (.ref C_NoSpread) (.ref C_PastPurse) = some false)
    (n_NoAnswer_PastPurse : (Value.ref C_NoAnswer == Value.ref C_PastPurse) = false)
    (s_NoAnswer_PastPurse : PySem.W.subIn K (.ref C_NoAnswer) (.ref C_PastPurse) = some false)
    (n_NoDie_PastPurse : (Value.ref C_NoDie == Value.ref C_PastPurse) = false)
    (s_NoDie_PastPurse : PySem.W.subIn K (.ref C_NoDie) (.ref C_PastPurse) = some false)
    (n_TooMany_PastPurse : (Value.ref C_TooMany == Value.ref C_PastPurse) = false)
    (s_TooMany_PastPurse : PySem.W.subIn K (.ref C_TooMany) (.ref C_PastPurse) = some false)
    (s_PastPurse_PastPurse : PySem.W.subIn K (.ref C_PastPurse) (.ref C_PastPurse) = some true)
    (n_Unlike_PastPurse : (Value.ref C_Unlike == Value.ref C_PastPurse) = false)
    (s_Unlike_PastPurse : PySem.W.subIn K (.ref C_Unlike) (.ref C_PastPurse) = some false)
    (n_BadText_PastPurse : (Value.ref C_BadText == Value.ref C_PastPurse) = false)
    (s_BadText_PastPurse : PySem.W.subIn K (.ref C_BadText) (.ref C_PastPurse) = some false)
    (n_BadProgram_PastPurse : (Value.ref C_BadProgram == Value.ref C_PastPurse) = false)
    (s_BadProgram_PastPurse : PySem.W.subIn K (.ref C_BadProgram) (.ref C_PastPurse) = some false)
    (n_NoShare_TooMany : (Value.ref C_NoShare == Value.ref C_TooMany) = false)
    (s_NoShare_TooMany : PySem.W.subIn K (.ref C_NoShare) (.ref C_TooMany) = some false)
    (n_NoSpread_TooMany : (Value.ref C_NoSpread == Value.ref C_TooMany) = false)
    (s_NoSpread_TooMany : PySem.W.subIn K (.ref C_NoSpread) (.ref C_TooMany) = some false)
    (n_NoAnswer_TooMany : (Value.ref C_NoAnswer == Value.ref C_TooMany) = false)
    (s_NoAnswer_TooMany : PySem.W.subIn K (.ref C_NoAnswer) (.ref C_TooMany) = some false)
    (n_NoDie_TooMany : (Value.ref C_NoDie == Value.ref C_TooMany) = false)
    (s_NoDie_TooMany : PySem.W.subIn K (.ref C_NoDie) (.ref C_TooMany) = some false)
    (s_TooMany_TooMany : PySem.W.subIn K (.ref C_TooMany) (.ref C_TooMany) = some true)
    (n_PastPurse_TooMany : (Value.ref C_PastPurse == Value.ref C_TooMany) = false)
    (s_PastPurse_TooMany : PySem.W.subIn K (.ref C_PastPurse) (.ref C_TooMany) = some false)
    (n_Unlike_TooMany : (Value.ref C_Unlike == Value.ref C_TooMany) = false)
    (s_Unlike_TooMany : PySem.W.subIn K (.ref C_Unlike) (.ref C_TooMany) = some false)
    (n_BadText_TooMany : (Value.ref C_BadText == Value.ref C_TooMany) = false)
    (s_BadText_TooMany : PySem.W.subIn K (.ref C_BadText) (.ref C_TooMany) = some false)
    (n_BadProgram_TooMany : (Value.ref C_BadProgram == Value.ref C_TooMany) = false)
    (s_BadProgram_TooMany : PySem.W.subIn K (.ref C_BadProgram) (.ref C_TooMany) = some false)
    (n_NoShare_BadProgram : (Value.ref C_NoShare == Value.ref C_BadProgram) = false)
    (s_NoShare_BadProgram : PySem.W.subIn K (.ref C_NoShare) (.ref C_BadProgram) = some false)
    (n_NoSpread_BadProgram : (Value.ref C_NoSpread == Value.ref C_BadProgram) = false)
    (s_NoSpread_BadProgram : PySem.W.subIn K (.ref C_NoSpread) (.ref C_BadProgram) = some false)
    (n_NoAnswer_BadProgram : (Value.ref C_NoAnswer == Value.ref C_BadProgram) = false)
    (s_NoAnswer_BadProgram : PySem.W.subIn K (.ref C_NoAnswer) (.ref C_BadProgram) = some false)
    (n_NoDie_BadProgram : (Value.ref C_NoDie == Value.ref C_BadProgram) = false)
    (s_NoDie_BadProgram : PySem.W.subIn K (.ref C_NoDie) (.ref C_BadProgram) = some false)
    (n_TooMany_BadProgram : (Value.ref C_TooMany == Value.ref C_BadProgram) = false)
    (s_TooMany_BadProgram : PySem.W.subIn K (.ref C_TooMany) (.ref C_BadProgram) = some false)
    (n_PastPurse_BadProgram : (Value.ref C_PastPurse == Value.ref C_BadProgram) = false)
    (s_PastPurse_BadProgram : PySem.W.subIn K (.ref C_PastPurse) (.ref C_BadProgram) = some false)
    (n_Unlike_BadProgram : (Value.ref C_Unlike == Value.ref C_BadProgram) = false)
    (s_Unlike_BadProgram : PySem.W.subIn K (.ref C_Unlike) (.ref C_BadProgram) = some false)
    (n_BadText_BadProgram : (Value.ref C_BadText == Value.ref C_BadProgram) = false)
    (s_BadText_BadProgram : PySem.W.subIn K (.ref C_BadText) (.ref C_BadProgram) = some false)
    (s_BadProgram_BadProgram : PySem.W.subIn K (.ref C_BadProgram) (.ref C_BadProgram) = some true)
    (n_NoShare_BadText : (Value.ref C_NoShare == Value.ref C_BadText) = false)
    (s_NoShare_BadText : PySem.W.subIn K (.ref C_NoShare) (.ref C_BadText) = some false)
    (n_NoSpread_BadText : (Value.ref C_NoSpread == Value.ref C_BadText) = false)
    (s_NoSpread_BadText : PySem.W.subIn K (.ref C_NoSpread) (.ref C_BadText) = some false)
    (n_NoAnswer_BadText : (Value.ref C_NoAnswer == Value.ref C_BadText) = false)
    (s_NoAnswer_BadText : PySem.W.subIn K (.ref C_NoAnswer) (.ref C_BadText) = some false)
    (n_NoDie_BadText : (Value.ref C_NoDie == Value.ref C_BadText) = false)
    (s_NoDie_BadText : PySem.W.subIn K (.ref C_NoDie) (.ref C_BadText) = some false)
    (n_TooMany_BadText : (Value.ref C_TooMany == Value.ref C_BadText) = false)
    (s_TooMany_BadText : PySem.W.subIn K (.ref C_TooMany) (.ref C_BadText) = some false)
    (n_PastPurse_BadText : (Value.ref C_PastPurse == Value.ref C_BadText) = false)
    (s_PastPurse_BadText : PySem.W.subIn K (.ref C_PastPurse) (.ref C_BadText) = some false)
    (n_Unlike_BadText : (Value.ref C_Unlike == Value.ref C_BadText) = false)
    (s_Unlike_BadText : PySem.W.subIn K (.ref C_Unlike) (.ref C_BadText) = some false)
    (s_BadText_BadText : PySem.W.subIn K (.ref C_BadText) (.ref C_BadText) = some true)
    (n_BadProgram_BadText : (Value.ref C_BadProgram == Value.ref C_BadText) = false)
    (s_BadProgram_BadText : PySem.W.subIn K (.ref C_BadProgram) (.ref C_BadText) = some false)
    (s_NoShare_BlurError : PySem.W.subIn K (.ref C_NoShare) (.ref C_BlurError) = some true)
    (s_NoSpread_BlurError : PySem.W.subIn K (.ref C_NoSpread) (.ref C_BlurError) = some true)
    (s_NoAnswer_BlurError : PySem.W.subIn K (.ref C_NoAnswer) (.ref C_BlurError) = some true)
    (s_NoDie_BlurError : PySem.W.subIn K (.ref C_NoDie) (.ref C_BlurError) = some true)
    (s_TooMany_BlurError : PySem.W.subIn K (.ref C_TooMany) (.ref C_BlurError) = some true)
    (s_PastPurse_BlurError : PySem.W.subIn K (.ref C_PastPurse) (.ref C_BlurError) = some true)
    (s_Unlike_BlurError : PySem.W.subIn K (.ref C_Unlike) (.ref C_BlurError) = some true)
    (s_BadText_BlurError : PySem.W.subIn K (.ref C_BadText) (.ref C_BlurError) = some true)
    (s_BadProgram_BlurError : PySem.W.subIn K (.ref C_BadProgram) (.ref C_BlurError) = some true)
    (w_NoShare : PySem.W.kitOne K (.ref C_NoShare) (.type "ValueError") = some true)
    (w_NoSpread : PySem.W.kitOne K (.ref C_NoSpread) (.type "ValueError") = some true)
    (w_NoAnswer : PySem.W.kitOne K (.ref C_NoAnswer) (.type "ValueError") = some true)
    (w_NoDie : PySem.W.kitOne K (.ref C_NoDie) (.type "ValueError") = some true)
    (w_TooMany : PySem.W.kitOne K (.ref C_TooMany) (.type "ValueError") = some true)
    (w_PastPurse : PySem.W.kitOne K (.ref C_PastPurse) (.type "ValueError") = some true)
    (w_Unlike : PySem.W.kitOne K (.ref C_Unlike) (.type "ValueError") = some true)
    (w_BadText : PySem.W.kitOne K (.ref C_BadText) (.type "ValueError") = some true)
    (w_BadProgram : PySem.W.kitOne K (.ref C_BadProgram) (.type "ValueError") = some true)
    : ∃ fd : FuncData, (∀ (s : Shared) (u : Value), BindsTo s fd ⟨[u], []⟩ [("_law_script", u)]) ∧ ∀ base : Heap, K.In base → base.Ns mainGlobals mg → FnOk P w K mg base (L2.CX P w) 4 fa fd ["_law_script"] (spD K mg 1 F_law) := by
  have e := hfa.symm.trans (PySem.W.mg_of X G a4)
  cases e
  have T : Txt K mg := ⟨PySem.W.mg_none_of X G z1, PySem.W.mg_none_of X G z2, PySem.W.mg_none_of X G z3, PySem.W.mg_none_of X G z4, PySem.W.mg_none_of X G z5, PySem.W.mg_none_of X G z6, PySem.W.mg_none_of X G z7, ⟨⟨C_NoShare, "ValueError", _, _, _, PySem.F.excBase_ValueError, x_NoShare, PySem.W.mg_of X G g_NoShare, e_NoShare, u_NoShare, t_NoShare⟩⟩, ⟨⟨C_NoSpread, "ValueError", _, _, _, PySem.F.excBase_ValueError, x_NoSpread, PySem.W.mg_of X G g_NoSpread, e_NoSpread, u_NoSpread, t_NoSpread⟩⟩, ⟨⟨C_NoAnswer, "ValueError", _, _, _, PySem.F.excBase_ValueError, x_NoAnswer, PySem.W.mg_of X G g_NoAnswer, e_NoAnswer, u_NoAnswer, t_NoAnswer⟩⟩, ⟨⟨C_NoDie, "ValueError", _, _, _, PySem.F.excBase_ValueError, x_NoDie, PySem.W.mg_of X G g_NoDie, e_NoDie, u_NoDie, t_NoDie⟩⟩, ⟨⟨C_TooMany, "ValueError", _, _, _, PySem.F.excBase_ValueError, x_TooMany, PySem.W.mg_of X G g_TooMany, e_TooMany, u_TooMany, t_TooMany⟩⟩, ⟨⟨C_PastPurse, "ValueError", _, _, _, PySem.F.excBase_ValueError, x_PastPurse, PySem.W.mg_of X G g_PastPurse, e_PastPurse, u_PastPurse, t_PastPurse⟩⟩, ⟨⟨C_Unlike, "ValueError", _, _, _, PySem.F.excBase_ValueError, x_Unlike, PySem.W.mg_of X G g_Unlike, e_Unlike, u_Unlike, t_Unlike⟩⟩, (FldNs.cons g_BadText ⟨v1_BadText, v2_BadText, u_BadText, v3_BadText⟩ na_BadText_row FldNs.nil), (FldNs.cons g_BadProgram ⟨v1_BadProgram, v2_BadProgram, u_BadProgram, v3_BadProgram⟩ na_BadProgram_at FldNs.nil), (FldNs.cons g_BadProgram ⟨v1_BadProgram, v2_BadProgram, u_BadProgram, v3_BadProgram⟩ na_BadProgram_why FldNs.nil), ⟨_, PySem.W.mg_of X G g_NoDie, (ErrTab.cons g_NoShare ⟨v1_NoShare, v2_NoShare, u_NoShare, v3_NoShare, v4_NoShare, v5_NoShare, v6_NoShare, v7_NoShare⟩ (kit_own (fun z => n_NoShare_NoDie.symm.trans z) i_NoDie t_NoDie s_NoShare_NoDie) (ErrTab.cons g_NoSpread ⟨v1_NoSpread, v2_NoSpread, u_NoSpread, v3_NoSpread, v4_NoSpread, v5_NoSpread, v6_NoSpread, v7_NoSpread⟩ (kit_own (fun z => n_NoSpread_NoDie.symm.trans z) i_NoDie t_NoDie s_NoSpread_NoDie) (ErrTab.cons g_NoAnswer ⟨v1_NoAnswer, v2_NoAnswer, u_NoAnswer, v3_NoAnswer, v4_NoAnswer, v5_NoAnswer, v6_NoAnswer, v7_NoAnswer⟩ (kit_own (fun z => n_NoAnswer_NoDie.symm.trans z) i_NoDie t_NoDie s_NoAnswer_NoDie) (ErrTab.cons g_NoDie ⟨v1_NoDie, v2_NoDie, u_NoDie, v3_NoDie, v4_NoDie, v5_NoDie, v6_NoDie, v7_NoDie⟩ (kit_own (fun _ => rfl) i_NoDie t_NoDie s_NoDie_NoDie) (ErrTab.cons g_TooMany ⟨v1_TooMany, v2_TooMany, u_TooMany, v3_TooMany, v4_TooMany, v5_TooMany, v6_TooMany, v7_TooMany⟩ (kit_own (fun z => n_TooMany_NoDie.symm.trans z) i_NoDie t_NoDie s_TooMany_NoDie) (ErrTab.cons g_PastPurse ⟨v1_PastPurse, v2_PastPurse, u_PastPurse, v3_PastPurse, v4_PastPurse, v5_PastPurse, v6_PastPurse, v7_PastPurse⟩ (kit_own (fun z => n_PastPurse_NoDie.symm.trans z) i_NoDie t_NoDie s_PastPurse_NoDie) (ErrTab.cons g_Unlike ⟨v1_Unlike, v2_Unlike, u_Unlike, v3_Unlike, v4_Unlike, v5_Unlike, v6_Unlike, v7_Unlike⟩ (kit_own (fun z => n_Unlike_NoDie.symm.trans z) i_NoDie t_NoDie s_Unlike_NoDie) (ErrTab.cons g_BadText ⟨v1_BadText, v2_BadText, u_BadText, v3_BadText, v4_BadText, v5_BadText, v6_BadText, v7_BadText⟩ (kit_own (fun z => n_BadText_NoDie.symm.trans z) i_NoDie t_NoDie s_BadText_NoDie) (ErrTab.cons g_BadProgram ⟨v1_BadProgram, v2_BadProgram, u_BadProgram, v3_BadProgram, v4_BadProgram, v5_BadProgram, v6_BadProgram, v7_BadProgram⟩ (kit_own (fun z => n_BadProgram_NoDie.symm.trans z) i_NoDie t_NoDie s_BadProgram_NoDie) ErrTab.nil)))))))))⟩, ⟨_, PySem.W.mg_of X G g_NoAnswer, (ErrTab.cons g_NoShare ⟨v1_NoShare, v2_NoShare, u_NoShare, v3_NoShare, v4_NoShare, v5_NoShare, v6_NoShare, v7_NoShare⟩ (kit_own (fun z => n_NoShare_NoAnswer.symm.trans z) i_NoAnswer t_NoAnswer s_NoShare_NoAnswer) (ErrTab.cons g_NoSpread ⟨v1_NoSpread, v2_NoSpread, u_NoSpread, v3_NoSpread, v4_NoSpread, v5_NoSpread, v6_NoSpread, v7_NoSpread⟩ (kit_own (fun z => n_NoSpread_NoAnswer.symm.trans z) i_NoAnswer t_NoAnswer s_NoSpread_NoAnswer) (ErrTab.cons g_NoAnswer ⟨v1_NoAnswer, v2_NoAnswer, u_NoAnswer, v3_NoAnswer, v4_NoAnswer, v5_NoAnswer, v6_NoAnswer, v7_NoAnswer⟩ (kit_own (fun _ => rfl) i_NoAnswer t_NoAnswer s_NoAnswer_NoAnswer) (ErrTab.cons g_NoDie ⟨v1_NoDie, v2_NoDie, u_NoDie, v3_NoDie, v4_NoDie, v5_NoDie, v6_NoDie, v7_NoDie⟩ (kit_own (fun z => n_NoDie_NoAnswer.symm.trans z) i_NoAnswer t_NoAnswer s_NoDie_NoAnswer) (ErrTab.cons g_TooMany ⟨v1_TooMany, v2_TooMany, u_TooMany, v3_TooMany, v4_TooMany, v5_TooMany, v6_TooMany, v7_TooMany⟩ (kit_own (fun z => n_TooMany_NoAnswer.symm.trans z) i_NoAnswer t_NoAnswer s_TooMany_NoAnswer) (ErrTab.cons g_PastPurse ⟨v1_PastPurse, v2_PastPurse, u_PastPurse, v3_PastPurse, v4_PastPurse, v5_PastPurse, v6_PastPurse, v7_PastPurse⟩ (kit_own (fun z => n_PastPurse_NoAnswer.symm.trans z) i_NoAnswer t_NoAnswer s_PastPurse_NoAnswer) (ErrTab.cons g_Unlike ⟨v1_Unlike, v2_Unlike, u_Unlike, v3_Unlike, v4_Unlike, v5_Unlike, v6_Unlike, v7_Unlike⟩ (kit_own (fun z => n_Unlike_NoAnswer.symm.trans z) i_NoAnswer t_NoAnswer s_Unlike_NoAnswer) (ErrTab.cons g_BadText ⟨v1_BadText, v2_BadText, u_BadText, v3_BadText, v4_BadText, v5_BadText, v6_BadText, v7_BadText⟩ (kit_own (fun z => n_BadText_NoAnswer.symm.trans z) i_NoAnswer t_NoAnswer s_BadText_NoAnswer) (ErrTab.cons g_BadProgram ⟨v1_BadProgram, v2_BadProgram, u_BadProgram, v3_BadProgram, v4_BadProgram, v5_BadProgram, v6_BadProgram, v7_BadProgram⟩ (kit_own (fun z => n_BadProgram_NoAnswer.symm.trans z) i_NoAnswer t_NoAnswer s_BadProgram_NoAnswer) ErrTab.nil)))))))))⟩, ⟨_, PySem.W.mg_of X G g_NoSpread, (ErrTab.cons g_NoShare ⟨v1_NoShare, v2_NoShare, u_NoShare, v3_NoShare, v4_NoShare, v5_NoShare, v6_NoShare, v7_NoShare⟩ (kit_own (fun z => n_NoShare_NoSpread.symm.trans z) i_NoSpread t_NoSpread s_NoShare_NoSpread) (ErrTab.cons g_NoSpread ⟨v1_NoSpread, v2_NoSpread, u_NoSpread, v3_NoSpread, v4_NoSpread, v5_NoSpread, v6_NoSpread, v7_NoSpread⟩ (kit_own (fun _ => rfl) i_NoSpread t_NoSpread s_NoSpread_NoSpread) (ErrTab.cons g_NoAnswer ⟨v1_NoAnswer, v2_NoAnswer, u_NoAnswer, v3_NoAnswer, v4_NoAnswer, v5_NoAnswer, v6_NoAnswer, v7_NoAnswer⟩ (kit_own (fun z => n_NoAnswer_NoSpread.symm.trans z) i_NoSpread t_NoSpread s_NoAnswer_NoSpread) (ErrTab.cons g_NoDie ⟨v1_NoDie, v2_NoDie, u_NoDie, v3_NoDie, v4_NoDie, v5_NoDie, v6_NoDie, v7_NoDie⟩ (kit_own (fun z => n_NoDie_NoSpread.symm.trans z) i_NoSpread t_NoSpread s_NoDie_NoSpread) (ErrTab.cons g_TooMany ⟨v1_TooMany, v2_TooMany, u_TooMany, v3_TooMany, v4_TooMany, v5_TooMany, v6_TooMany, v7_TooMany⟩ (kit_own (fun z => n_TooMany_NoSpread.symm.trans z) i_NoSpread t_NoSpread s_TooMany_NoSpread) (ErrTab.cons g_PastPurse ⟨v1_PastPurse, v2_PastPurse, u_PastPurse, v3_PastPurse, v4_PastPurse, v5_PastPurse, v6_PastPurse, v7_PastPurse⟩ (kit_own (fun z => n_PastPurse_NoSpread.symm.trans z) i_NoSpread t_NoSpread s_PastPurse_NoSpread) (ErrTab.cons g_Unlike ⟨v1_Unlike, v2_Unlike, u_Unlike, v3_Unlike, v4_Unlike, v5_Unlike, v6_Unlike, v7_Unlike⟩ (kit_own (fun z => n_Unlike_NoSpread.symm.trans z) i_NoSpread t_NoSpread s_Unlike_NoSpread) (ErrTab.cons g_BadText ⟨v1_BadText, v2_BadText, u_BadText, v3_BadText, v4_BadText, v5_BadText, v6_BadText, v7_BadText⟩ (kit_own (fun z => n_BadText_NoSpread.symm.trans z) i_NoSpread t_NoSpread s_BadText_NoSpread) (ErrTab.cons g_BadProgram ⟨v1_BadProgram, v2_BadProgram, u_BadProgram, v3_BadProgram, v4_BadProgram, v5_BadProgram, v6_BadProgram, v7_BadProgram⟩ (kit_own (fun z => n_BadProgram_NoSpread.symm.trans z) i_NoSpread t_NoSpread s_BadProgram_NoSpread) ErrTab.nil)))))))))⟩, ⟨_, PySem.W.mg_of X G g_NoShare, (ErrTab.cons g_NoShare ⟨v1_NoShare, v2_NoShare, u_NoShare, v3_NoShare, v4_NoShare, v5_NoShare, v6_NoShare, v7_NoShare⟩ (kit_own (fun _ => rfl) i_NoShare t_NoShare s_NoShare_NoShare) (ErrTab.cons g_NoSpread ⟨v1_NoSpread, v2_NoSpread, u_NoSpread, v3_NoSpread, v4_NoSpread, v5_NoSpread, v6_NoSpread, v7_NoSpread⟩ (kit_own (fun z => n_NoSpread_NoShare.symm.trans z) i_NoShare t_NoShare s_NoSpread_NoShare) (ErrTab.cons g_NoAnswer ⟨v1_NoAnswer, v2_NoAnswer, u_NoAnswer, v3_NoAnswer, v4_NoAnswer, v5_NoAnswer, v6_NoAnswer, v7_NoAnswer⟩ (kit_own (fun z => n_NoAnswer_NoShare.symm.trans z) i_NoShare t_NoShare s_NoAnswer_NoShare) (ErrTab.cons g_NoDie ⟨v1_NoDie, v2_NoDie, u_NoDie, v3_NoDie, v4_NoDie, v5_NoDie, v6_NoDie, v7_NoDie⟩ (kit_own (fun z => n_NoDie_NoShare.symm.trans z) i_NoShare t_NoShare s_NoDie_NoShare) (ErrTab.cons g_TooMany ⟨v1_TooMany, v2_TooMany, u_TooMany, v3_TooMany, v4_TooMany, v5_TooMany, v6_TooMany, v7_TooMany⟩ (kit_own (fun z => n_TooMany_NoShare.symm.trans z) i_NoShare t_NoShare s_TooMany_NoShare) (ErrTab.cons g_PastPurse ⟨v1_PastPurse, v2_PastPurse, u_PastPurse, v3_PastPurse, v4_PastPurse, v5_PastPurse, v6_PastPurse, v7_PastPurse⟩ (kit_own (fun z => n_PastPurse_NoShare.symm.trans z) i_NoShare t_NoShare s_PastPurse_NoShare) (ErrTab.cons g_Unlike ⟨v1_Unlike, v2_Unlike, u_Unlike, v3_Unlike, v4_Unlike, v5_Unlike, v6_Unlike, v7_Unlike⟩ (kit_own (fun z => n_Unlike_NoShare.symm.trans z) i_NoShare t_NoShare s_Unlike_NoShare) (ErrTab.cons g_BadText ⟨v1_BadText, v2_BadText, u_BadText, v3_BadText, v4_BadText, v5_BadText, v6_BadText, v7_BadText⟩ (kit_own (fun z => n_BadText_NoShare.symm.trans z) i_NoShare t_NoShare s_BadText_NoShare) (ErrTab.cons g_BadProgram ⟨v1_BadProgram, v2_BadProgram, u_BadProgram, v3_BadProgram, v4_BadProgram, v5_BadProgram, v6_BadProgram, v7_BadProgram⟩ (kit_own (fun z => n_BadProgram_NoShare.symm.trans z) i_NoShare t_NoShare s_BadProgram_NoShare) ErrTab.nil)))))))))⟩, ⟨_, PySem.W.mg_of X G g_Unlike, (ErrTab.cons g_NoShare ⟨v1_NoShare, v2_NoShare, u_NoShare, v3_NoShare, v4_NoShare, v5_NoShare, v6_NoShare, v7_NoShare⟩ (kit_own (fun z => n_NoShare_Unlike.symm.trans z) i_Unlike t_Unlike s_NoShare_Unlike) (ErrTab.cons g_NoSpread ⟨v1_NoSpread, v2_NoSpread, u_NoSpread, v3_NoSpread, v4_NoSpread, v5_NoSpread, v6_NoSpread, v7_NoSpread⟩ (kit_own (fun z => n_NoSpread_Unlike.symm.trans z) i_Unlike t_Unlike s_NoSpread_Unlike) (ErrTab.cons g_NoAnswer ⟨v1_NoAnswer, v2_NoAnswer, u_NoAnswer, v3_NoAnswer, v4_NoAnswer, v5_NoAnswer, v6_NoAnswer, v7_NoAnswer⟩ (kit_own (fun z => n_NoAnswer_Unlike.symm.trans z) i_Unlike t_Unlike s_NoAnswer_Unlike) (ErrTab.cons g_NoDie ⟨v1_NoDie, v2_NoDie, u_NoDie, v3_NoDie, v4_NoDie, v5_NoDie, v6_NoDie, v7_NoDie⟩ (kit_own (fun z => n_NoDie_Unlike.symm.trans z) i_Unlike t_Unlike s_NoDie_Unlike) (ErrTab.cons g_TooMany ⟨v1_TooMany, v2_TooMany, u_TooMany, v3_TooMany, v4_TooMany, v5_TooMany, v6_TooMany, v7_TooMany⟩ (kit_own (fun z => n_TooMany_Unlike.symm.trans z) i_Unlike t_Unlike s_TooMany_Unlike) (ErrTab.cons g_PastPurse ⟨v1_PastPurse, v2_PastPurse, u_PastPurse, v3_PastPurse, v4_PastPurse, v5_PastPurse, v6_PastPurse, v7_PastPurse⟩ (kit_own (fun z => n_PastPurse_Unlike.symm.trans z) i_Unlike t_Unlike s_PastPurse_Unlike) (ErrTab.cons g_Unlike ⟨v1_Unlike, v2_Unlike, u_Unlike, v3_Unlike, v4_Unlike, v5_Unlike, v6_Unlike, v7_Unlike⟩ (kit_own (fun _ => rfl) i_Unlike t_Unlike s_Unlike_Unlike) (ErrTab.cons g_BadText ⟨v1_BadText, v2_BadText, u_BadText, v3_BadText, v4_BadText, v5_BadText, v6_BadText, v7_BadText⟩ (kit_own (fun z => n_BadText_Unlike.symm.trans z) i_Unlike t_Unlike s_BadText_Unlike) (ErrTab.cons g_BadProgram ⟨v1_BadProgram, v2_BadProgram, u_BadProgram, v3_BadProgram, v4_BadProgram, v5_BadProgram, v6_BadProgram, v7_BadProgram⟩ (kit_own (fun z => n_BadProgram_Unlike.symm.trans z) i_Unlike t_Unlike s_BadProgram_Unlike) ErrTab.nil)))))))))⟩, ⟨_, PySem.W.mg_of X G g_PastPurse, (ErrTab.cons g_NoShare ⟨v1_NoShare, v2_NoShare, u_NoShare, v3_NoShare, v4_NoShare, v5_NoShare, v6_NoShare, v7_NoShare⟩ (kit_own (fun z => n_NoShare_PastPurse.symm.trans z) i_PastPurse t_PastPurse s_NoShare_PastPurse) (ErrTab.cons g_NoSpread ⟨v1_NoSpread, v2_NoSpread, u_NoSpread, v3_NoSpread, v4_NoSpread, v5_NoSpread, v6_NoSpread, v7_NoSpread⟩ (kit_own (fun z => n_NoSpread_PastPurse.symm.trans z) i_PastPurse t_PastPurse s_NoSpread_PastPurse) (ErrTab.cons g_NoAnswer ⟨v1_NoAnswer, v2_NoAnswer, u_NoAnswer, v3_NoAnswer, v4_NoAnswer, v5_NoAnswer, v6_NoAnswer, v7_NoAnswer⟩ (kit_own (fun z => n_NoAnswer_PastPurse.symm.trans z) i_PastPurse t_PastPurse s_NoAnswer_PastPurse) (ErrTab.cons g_NoDie ⟨v1_NoDie, v2_NoDie, u_NoDie, v3_NoDie, v4_NoDie, v5_NoDie, v6_NoDie, v7_NoDie⟩ (kit_own (fun z => n_NoDie_PastPurse.symm.trans z) i_PastPurse t_PastPurse s_NoDie_PastPurse) (ErrTab.cons g_TooMany ⟨v1_TooMany, v2_TooMany, u_TooMany, v3_TooMany, v4_TooMany, v5_TooMany, v6_TooMany, v7_TooMany⟩ (kit_own (fun z => n_TooMany_PastPurse.symm.trans z) i_PastPurse t_PastPurse s_TooMany_PastPurse) (ErrTab.cons g_PastPurse ⟨v1_PastPurse, v2_PastPurse, u_PastPurse, v3_PastPurse, v4_PastPurse, v5_PastPurse, v6_PastPurse, v7_PastPurse⟩ (kit_own (fun _ => rfl) i_PastPurse t_PastPurse s_PastPurse_PastPurse) (ErrTab.cons g_Unlike ⟨v1_Unlike, v2_Unlike, u_Unlike, v3_Unlike, v4_Unlike, v5_Unlike, v6_Unlike, v7_Unlike⟩ (kit_own (fun z => n_Unlike_PastPurse.symm.trans z) i_PastPurse t_PastPurse s_Unlike_PastPurse) (ErrTab.cons g_BadText ⟨v1_BadText, v2_BadText, u_BadText, v3_BadText, v4_BadText, v5_BadText, v6_BadText, v7_BadText⟩ (kit_own (fun z => n_BadText_PastPurse.symm.trans z) i_PastPurse t_PastPurse s_BadText_PastPurse) (ErrTab.cons g_BadProgram ⟨v1_BadProgram, v2_BadProgram, u_BadProgram, v3_BadProgram, v4_BadProgram, v5_BadProgram, v6_BadProgram, v7_BadProgram⟩ (kit_own (fun z => n_BadProgram_PastPurse.symm.trans z) i_PastPurse t_PastPurse s_BadProgram_PastPurse) ErrTab.nil)))))))))⟩, ⟨_, PySem.W.mg_of X G g_TooMany, (ErrTab.cons g_NoShare ⟨v1_NoShare, v2_NoShare, u_NoShare, v3_NoShare, v4_NoShare, v5_NoShare, v6_NoShare, v7_NoShare⟩ (kit_own (fun z => n_NoShare_TooMany.symm.trans z) i_TooMany t_TooMany s_NoShare_TooMany) (ErrTab.cons g_NoSpread ⟨v1_NoSpread, v2_NoSpread, u_NoSpread, v3_NoSpread, v4_NoSpread, v5_NoSpread, v6_NoSpread, v7_NoSpread⟩ (kit_own (fun z => n_NoSpread_TooMany.symm.trans z) i_TooMany t_TooMany s_NoSpread_TooMany) (ErrTab.cons g_NoAnswer ⟨v1_NoAnswer, v2_NoAnswer, u_NoAnswer, v3_NoAnswer, v4_NoAnswer, v5_NoAnswer, v6_NoAnswer, v7_NoAnswer⟩ (kit_own (fun z => n_NoAnswer_TooMany.symm.trans z) i_TooMany t_TooMany s_NoAnswer_TooMany) (ErrTab.cons g_NoDie ⟨v1_NoDie, v2_NoDie, u_NoDie, v3_NoDie, v4_NoDie, v5_NoDie, v6_NoDie, v7_NoDie⟩ (kit_own (fun z => n_NoDie_TooMany.symm.trans z) i_TooMany t_TooMany s_NoDie_TooMany) (ErrTab.cons g_TooMany ⟨v1_TooMany, v2_TooMany, u_TooMany, v3_TooMany, v4_TooMany, v5_TooMany, v6_TooMany, v7_TooMany⟩ (kit_own (fun _ => rfl) i_TooMany t_TooMany s_TooMany_TooMany) (ErrTab.cons g_PastPurse ⟨v1_PastPurse, v2_PastPurse, u_PastPurse, v3_PastPurse, v4_PastPurse, v5_PastPurse, v6_PastPurse, v7_PastPurse⟩ (kit_own (fun z => n_PastPurse_TooMany.symm.trans z) i_TooMany t_TooMany s_PastPurse_TooMany) (ErrTab.cons g_Unlike ⟨v1_Unlike, v2_Unlike, u_Unlike, v3_Unlike, v4_Unlike, v5_Unlike, v6_Unlike, v7_Unlike⟩ (kit_own (fun z => n_Unlike_TooMany.symm.trans z) i_TooMany t_TooMany s_Unlike_TooMany) (ErrTab.cons g_BadText ⟨v1_BadText, v2_BadText, u_BadText, v3_BadText, v4_BadText, v5_BadText, v6_BadText, v7_BadText⟩ (kit_own (fun z => n_BadText_TooMany.symm.trans z) i_TooMany t_TooMany s_BadText_TooMany) (ErrTab.cons g_BadProgram ⟨v1_BadProgram, v2_BadProgram, u_BadProgram, v3_BadProgram, v4_BadProgram, v5_BadProgram, v6_BadProgram, v7_BadProgram⟩ (kit_own (fun z => n_BadProgram_TooMany.symm.trans z) i_TooMany t_TooMany s_BadProgram_TooMany) ErrTab.nil)))))))))⟩, ⟨_, PySem.W.mg_of X G g_BadProgram, (ErrTab.cons g_NoShare ⟨v1_NoShare, v2_NoShare, u_NoShare, v3_NoShare, v4_NoShare, v5_NoShare, v6_NoShare, v7_NoShare⟩ (kit_own (fun z => n_NoShare_BadProgram.symm.trans z) i_BadProgram t_BadProgram s_NoShare_BadProgram) (ErrTab.cons g_NoSpread ⟨v1_NoSpread, v2_NoSpread, u_NoSpread, v3_NoSpread, v4_NoSpread, v5_NoSpread, v6_NoSpread, v7_NoSpread⟩ (kit_own (fun z => n_NoSpread_BadProgram.symm.trans z) i_BadProgram t_BadProgram s_NoSpread_BadProgram) (ErrTab.cons g_NoAnswer ⟨v1_NoAnswer, v2_NoAnswer, u_NoAnswer, v3_NoAnswer, v4_NoAnswer, v5_NoAnswer, v6_NoAnswer, v7_NoAnswer⟩ (kit_own (fun z => n_NoAnswer_BadProgram.symm.trans z) i_BadProgram t_BadProgram s_NoAnswer_BadProgram) (ErrTab.cons g_NoDie ⟨v1_NoDie, v2_NoDie, u_NoDie, v3_NoDie, v4_NoDie, v5_NoDie, v6_NoDie, v7_NoDie⟩ (kit_own (fun z => n_NoDie_BadProgram.symm.trans z) i_BadProgram t_BadProgram s_NoDie_BadProgram) (ErrTab.cons g_TooMany ⟨v1_TooMany, v2_TooMany, u_TooMany, v3_TooMany, v4_TooMany, v5_TooMany, v6_TooMany, v7_TooMany⟩ (kit_own (fun z => n_TooMany_BadProgram.symm.trans z) i_BadProgram t_BadProgram s_TooMany_BadProgram) (ErrTab.cons g_PastPurse ⟨v1_PastPurse, v2_PastPurse, u_PastPurse, v3_PastPurse, v4_PastPurse, v5_PastPurse, v6_PastPurse, v7_PastPurse⟩ (kit_own (fun z => n_PastPurse_BadProgram.symm.trans z) i_BadProgram t_BadProgram s_PastPurse_BadProgram) (ErrTab.cons g_Unlike ⟨v1_Unlike, v2_Unlike, u_Unlike, v3_Unlike, v4_Unlike, v5_Unlike, v6_Unlike, v7_Unlike⟩ (kit_own (fun z => n_Unlike_BadProgram.symm.trans z) i_BadProgram t_BadProgram s_Unlike_BadProgram) (ErrTab.cons g_BadText ⟨v1_BadText, v2_BadText, u_BadText, v3_BadText, v4_BadText, v5_BadText, v6_BadText, v7_BadText⟩ (kit_own (fun z => n_BadText_BadProgram.symm.trans z) i_BadProgram t_BadProgram s_BadText_BadProgram) (ErrTab.cons g_BadProgram ⟨v1_BadProgram, v2_BadProgram, u_BadProgram, v3_BadProgram, v4_BadProgram, v5_BadProgram, v6_BadProgram, v7_BadProgram⟩ (kit_own (fun _ => rfl) i_BadProgram t_BadProgram s_BadProgram_BadProgram) ErrTab.nil)))))))))⟩, ⟨_, PySem.W.mg_of X G g_BadText, (ErrTab.cons g_NoShare ⟨v1_NoShare, v2_NoShare, u_NoShare, v3_NoShare, v4_NoShare, v5_NoShare, v6_NoShare, v7_NoShare⟩ (kit_own (fun z => n_NoShare_BadText.symm.trans z) i_BadText t_BadText s_NoShare_BadText) (ErrTab.cons g_NoSpread ⟨v1_NoSpread, v2_NoSpread, u_NoSpread, v3_NoSpread, v4_NoSpread, v5_NoSpread, v6_NoSpread, v7_NoSpread⟩ (kit_own (fun z => n_NoSpread_BadText.symm.trans z) i_BadText t_BadText s_NoSpread_BadText) (ErrTab.cons g_NoAnswer ⟨v1_NoAnswer, v2_NoAnswer, u_NoAnswer, v3_NoAnswer, v4_NoAnswer, v5_NoAnswer, v6_NoAnswer, v7_NoAnswer⟩ (kit_own (fun z => n_NoAnswer_BadText.symm.trans z) i_BadText t_BadText s_NoAnswer_BadText) (ErrTab.cons g_NoDie ⟨v1_NoDie, v2_NoDie, u_NoDie, v3_NoDie, v4_NoDie, v5_NoDie, v6_NoDie, v7_NoDie⟩ (kit_own (fun z => n_NoDie_BadText.symm.trans z) i_BadText t_BadText s_NoDie_BadText) (ErrTab.cons g_TooMany ⟨v1_TooMany, v2_TooMany, u_TooMany, v3_TooMany, v4_TooMany, v5_TooMany, v6_TooMany, v7_TooMany⟩ (kit_own (fun z => n_TooMany_BadText.symm.trans z) i_BadText t_BadText s_TooMany_BadText) (ErrTab.cons g_PastPurse ⟨v1_PastPurse, v2_PastPurse, u_PastPurse, v3_PastPurse, v4_PastPurse, v5_PastPurse, v6_PastPurse, v7_PastPurse⟩ (kit_own (fun z => n_PastPurse_BadText.symm.trans z) i_BadText t_BadText s_PastPurse_BadText) (ErrTab.cons g_Unlike ⟨v1_Unlike, v2_Unlike, u_Unlike, v3_Unlike, v4_Unlike, v5_Unlike, v6_Unlike, v7_Unlike⟩ (kit_own (fun z => n_Unlike_BadText.symm.trans z) i_BadText t_BadText s_Unlike_BadText) (ErrTab.cons g_BadText ⟨v1_BadText, v2_BadText, u_BadText, v3_BadText, v4_BadText, v5_BadText, v6_BadText, v7_BadText⟩ (kit_own (fun _ => rfl) i_BadText t_BadText s_BadText_BadText) (ErrTab.cons g_BadProgram ⟨v1_BadProgram, v2_BadProgram, u_BadProgram, v3_BadProgram, v4_BadProgram, v5_BadProgram, v6_BadProgram, v7_BadProgram⟩ (kit_own (fun z => n_BadProgram_BadText.symm.trans z) i_BadText t_BadText s_BadProgram_BadText) ErrTab.nil)))))))))⟩, ⟨_, PySem.W.mg_of X G g_BlurError, (ErrTab.cons g_NoShare ⟨v1_NoShare, v2_NoShare, u_NoShare, v3_NoShare, v4_NoShare, v5_NoShare, v6_NoShare, v7_NoShare⟩ (kit_own (fun _ => rfl) i_BlurError t_BlurError s_NoShare_BlurError) (ErrTab.cons g_NoSpread ⟨v1_NoSpread, v2_NoSpread, u_NoSpread, v3_NoSpread, v4_NoSpread, v5_NoSpread, v6_NoSpread, v7_NoSpread⟩ (kit_own (fun _ => rfl) i_BlurError t_BlurError s_NoSpread_BlurError) (ErrTab.cons g_NoAnswer ⟨v1_NoAnswer, v2_NoAnswer, u_NoAnswer, v3_NoAnswer, v4_NoAnswer, v5_NoAnswer, v6_NoAnswer, v7_NoAnswer⟩ (kit_own (fun _ => rfl) i_BlurError t_BlurError s_NoAnswer_BlurError) (ErrTab.cons g_NoDie ⟨v1_NoDie, v2_NoDie, u_NoDie, v3_NoDie, v4_NoDie, v5_NoDie, v6_NoDie, v7_NoDie⟩ (kit_own (fun _ => rfl) i_BlurError t_BlurError s_NoDie_BlurError) (ErrTab.cons g_TooMany ⟨v1_TooMany, v2_TooMany, u_TooMany, v3_TooMany, v4_TooMany, v5_TooMany, v6_TooMany, v7_TooMany⟩ (kit_own (fun _ => rfl) i_BlurError t_BlurError s_TooMany_BlurError) (ErrTab.cons g_PastPurse ⟨v1_PastPurse, v2_PastPurse, u_PastPurse, v3_PastPurse, v4_PastPurse, v5_PastPurse, v6_PastPurse, v7_PastPurse⟩ (kit_own (fun _ => rfl) i_BlurError t_BlurError s_PastPurse_BlurError) (ErrTab.cons g_Unlike ⟨v1_Unlike, v2_Unlike, u_Unlike, v3_Unlike, v4_Unlike, v5_Unlike, v6_Unlike, v7_Unlike⟩ (kit_own (fun _ => rfl) i_BlurError t_BlurError s_Unlike_BlurError) (ErrTab.cons g_BadText ⟨v1_BadText, v2_BadText, u_BadText, v3_BadText, v4_BadText, v5_BadText, v6_BadText, v7_BadText⟩ (kit_own (fun _ => rfl) i_BlurError t_BlurError s_BadText_BlurError) (ErrTab.cons g_BadProgram ⟨v1_BadProgram, v2_BadProgram, u_BadProgram, v3_BadProgram, v4_BadProgram, v5_BadProgram, v6_BadProgram, v7_BadProgram⟩ (kit_own (fun _ => rfl) i_BlurError t_BlurError s_BadProgram_BlurError) ErrTab.nil)))))))))⟩, (ErrTab.cons g_NoShare ⟨v1_NoShare, v2_NoShare, u_NoShare, v3_NoShare, v4_NoShare, v5_NoShare, v6_NoShare, v7_NoShare⟩ w_NoShare (ErrTab.cons g_NoSpread ⟨v1_NoSpread, v2_NoSpread, u_NoSpread, v3_NoSpread, v4_NoSpread, v5_NoSpread, v6_NoSpread, v7_NoSpread⟩ w_NoSpread (ErrTab.cons g_NoAnswer ⟨v1_NoAnswer, v2_NoAnswer, u_NoAnswer, v3_NoAnswer, v4_NoAnswer, v5_NoAnswer, v6_NoAnswer, v7_NoAnswer⟩ w_NoAnswer (ErrTab.cons g_NoDie ⟨v1_NoDie, v2_NoDie, u_NoDie, v3_NoDie, v4_NoDie, v5_NoDie, v6_NoDie, v7_NoDie⟩ w_NoDie (ErrTab.cons g_TooMany ⟨v1_TooMany, v2_TooMany, u_TooMany, v3_TooMany, v4_TooMany, v5_TooMany, v6_TooMany, v7_TooMany⟩ w_TooMany (ErrTab.cons g_PastPurse ⟨v1_PastPurse, v2_PastPurse, u_PastPurse, v3_PastPurse, v4_PastPurse, v5_PastPurse, v6_PastPurse, v7_PastPurse⟩ w_PastPurse (ErrTab.cons g_Unlike ⟨v1_Unlike, v2_Unlike, u_Unlike, v3_Unlike, v4_Unlike, v5_Unlike, v6_Unlike, v7_Unlike⟩ w_Unlike (ErrTab.cons g_BadText ⟨v1_BadText, v2_BadText, u_BadText, v3_BadText, v4_BadText, v5_BadText, v6_BadText, v7_BadText⟩ w_BadText (ErrTab.cons g_BadProgram ⟨v1_BadProgram, v2_BadProgram, u_BadProgram, v3_BadProgram, v4_BadProgram, v5_BadProgram, v6_BadProgram, v7_BadProgram⟩ w_BadProgram ErrTab.nil))))))))), (fun C e => by cases (PySem.W.mg_of X G g_NoShare).symm.trans e; exact g_NoShare), (fun C e => by cases (PySem.W.mg_of X G g_NoSpread).symm.trans e; exact g_NoSpread), (fun C e => by cases (PySem.W.mg_of X G g_NoAnswer).symm.trans e; exact g_NoAnswer), (fun C e => by cases (PySem.W.mg_of X G g_NoDie).symm.trans e; exact g_NoDie), (fun C e => by cases (PySem.W.mg_of X G g_TooMany).symm.trans e; exact g_TooMany), (fun C e => by cases (PySem.W.mg_of X G g_PastPurse).symm.trans e; exact g_PastPurse), (fun C e => by cases (PySem.W.mg_of X G g_Unlike).symm.trans e; exact g_Unlike), (fun C e => by cases (PySem.W.mg_of X G g_BadText).symm.trans e; exact g_BadText), (fun C e => by cases (PySem.W.mg_of X G g_BadProgram).symm.trans e; exact g_BadProgram)⟩
  have F1 := fun_mk (st := s_l_made) l1 c1 k1
  have b1 := F1.binds (ps := ["_law_kind", "_law_words", "_law_row", "_law_at", "_law_why"]) fun _ _ _ _ _ _ us hl => match us, hl with | [_, _, _, _, _], _ => rfl
  have F2 := fun_mk (st := s_l_kinds) l2 c2 k2
  have b2 := F2.binds (ps := ["_law_e"]) fun _ _ _ _ _ _ us hl => match us, hl with | [_], _ => rfl
  have F3 := fun_mk (st := s_l_whole) l3 c3 k3
  have b3 := F3.binds (ps := ["_law_found"]) fun _ _ _ _ _ _ us hl => match us, hl with | [_], _ => rfl
  have F4 := fun_mk (st := s_law) l4 c4 k4
  have b4 := F4.binds (ps := ["_law_script"]) fun _ _ _ _ _ _ us hl => match us, hl with | [_], _ => rfl
  refine ⟨PySem.W.fnOf "law" "law" (defArgs s_law) (defBody s_law) (defScope s_law) .none kV4 dc4 pm4 an4 cd4 ct4, fun s v => .of_eq rfl, fun base _ _ => ?_⟩
  have TB : BasE K C_BlurError := ⟨bsp, t_BlurError, brd, bfc⟩
  have FI_BadText := fun_mk (st := s_BadText_init) li_BadText ci_BadText ki_BadText
  have bI_BadText := FI_BadText.binds (ps := ["self", "words", "row"]) fun _ _ _ _ _ _ us hl => match us, hl with | [_, _, _], _ => rfl
  have x_BadText : FldOk P w K mg base 1 "BadText" ["row"] := ⟨⟨C_BadText, fI_BadText, _, oexB_ok oe_BadText sa_BadText u_BadText t_BadText e_BadText, (fun n hn => by simp only [List.mem_cons, List.not_mem_nil, or_false] at hn; rcases hn with rfl <;> first | exact na_BadText_row), in_BadText, ti_BadText, PySem.W.mg_of X G g_BadText, bI_BadText, ok_BadText_init TB (PySem.W.mg_of X G g_BlurError) FI_BadText⟩⟩
  have FI_BadProgram := fun_mk (st := s_BadProgram_init) li_BadProgram ci_BadProgram ki_BadProgram
  have bI_BadProgram := FI_BadProgram.binds (ps := ["self", "words", "at", "why"]) fun _ _ _ _ _ _ us hl => match us, hl with | [_, _, _, _], _ => rfl
  have x_BadProgram : FldOk P w K mg base 1 "BadProgram" ["at", "why"] := ⟨⟨C_BadProgram, fI_BadProgram, _, oexB_ok oe_BadProgram sa_BadProgram u_BadProgram t_BadProgram e_BadProgram, (fun n hn => by simp only [List.mem_cons, List.not_mem_nil, or_false] at hn; rcases hn with rfl | rfl <;> first | exact na_BadProgram_at | exact na_BadProgram_why), in_BadProgram, ti_BadProgram, PySem.W.mg_of X G g_BadProgram, bI_BadProgram, ok_BadProgram_init TB (PySem.W.mg_of X G g_BlurError) FI_BadProgram⟩⟩
  have h_l_made : CallOk P w K mg base 3 "_law_made" ["_law_kind", "_law_words", "_law_row", "_law_at", "_law_why"] F_l_made := ⟨f1, _, PySem.W.mg_of X G a1, k1, b1, ok_l_made T F1 (x_BadText.up (by decide)) (x_BadProgram.up (by decide))⟩
  have h_l_kinds : CallOk P w K mg base 1 "_law_kinds" ["_law_e"] F_l_kinds := ⟨f2, _, PySem.W.mg_of X G a2, k2, b2, ok_l_kinds T F2 ⟩
  have h_l_whole : CallOk P w K mg base 1 "_law_whole" ["_law_found"] F_l_whole := ⟨f3, _, PySem.W.mg_of X G a3, k3, b3, ok_l_whole T F3 ⟩
  exact ok_law T F4 (h_l_made.up (by decide)) (h_l_kinds.up (by decide)) (h_l_whole.up (by decide))
end DLaw
open PySem PySem.W PyProof.Rows
set_option maxRecDepth 100000 in
set_option maxHeartbeats 0 in
theorem PySem.Challenge.cw_blurdesk_k04_refusals_apart_holds : PySem.Challenge.rw_blurdesk_k04_refusals_apart.Holds := by
  w_on; o_law; k_head; (case hw => w_witness2)
  k_fill
  refine DL.endW (l := PySem.Challenge.rw_blurdesk_k04_refusals_apart) (k := 4) (F := DLaw.F_law) (x := "_law_script") rfl rfl (by decide) (fun w h Y => PySem.W.kIn_of Y) ?F DLaw.law_holds
  case F =>
    intro w mg fa h KX G hmg
    refine' DLaw.all_mk KX G hmg ?a1 ?l1 ?c1 ?k1 ?a2 ?l2 ?c2 ?k2 ?a3 ?l3 ?c3 ?k3 ?a4 ?l4 ?c4 ?k4 ?z1 ?z2 ?z3 ?z4 ?z5 ?z6 ?z7 ?g_NoShare ?u_NoShare ?t_NoShare ?x_NoShare ?e_NoShare ?i_NoShare ?g_NoSpread ?u_NoSpread ?t_NoSpread ?x_NoSpread ?e_NoSpread ?i_NoSpread ?g_NoAnswer ?u_NoAnswer ?t_NoAnswer ?x_NoAnswer ?e_NoAnswer ?i_NoAnswer ?g_NoDie ?u_NoDie ?t_NoDie ?x_NoDie ?e_NoDie ?i_NoDie ?g_TooMany ?u_TooMany ?t_TooMany ?x_TooMany ?e_TooMany ?i_TooMany ?g_PastPurse ?u_PastPurse ?t_PastPurse ?x_PastPurse ?e_PastPurse ?i_PastPurse ?g_Unlike ?u_Unlike ?t_Unlike ?x_Unlike ?e_Unlike ?i_Unlike ?g_BadText ?u_BadText ?t_BadText ?i_BadText ?g_BadProgram ?u_BadProgram ?t_BadProgram ?i_BadProgram ?g_BlurError ?u_BlurError ?t_BlurError ?i_BlurError ?e_BadText ?oe_BadText ?sa_BadText ?in_BadText ?li_BadText ?ci_BadText ?ki_BadText ?ti_BadText ?na_BadText_row ?e_BadProgram ?oe_BadProgram ?sa_BadProgram ?in_BadProgram ?li_BadProgram ?ci_BadProgram ?ki_BadProgram ?ti_BadProgram ?na_BadProgram_at ?na_BadProgram_why ?bsp ?brd ?bfc ?v1_NoShare ?v2_NoShare ?v3_NoShare ?v4_NoShare ?v5_NoShare ?v6_NoShare ?v7_NoShare ?v1_NoSpread ?v2_NoSpread ?v3_NoSpread ?v4_NoSpread ?v5_NoSpread ?v6_NoSpread ?v7_NoSpread ?v1_NoAnswer ?v2_NoAnswer ?v3_NoAnswer ?v4_NoAnswer ?v5_NoAnswer ?v6_NoAnswer ?v7_NoAnswer ?v1_NoDie ?v2_NoDie ?v3_NoDie ?v4_NoDie ?v5_NoDie ?v6_NoDie ?v7_NoDie ?v1_TooMany ?v2_TooMany ?v3_TooMany ?v4_TooMany ?v5_TooMany ?v6_TooMany ?v7_TooMany ?v1_PastPurse ?v2_PastPurse ?v3_PastPurse ?v4_PastPurse ?v5_PastPurse ?v6_PastPurse ?v7_PastPurse ?v1_Unlike ?v2_Unlike ?v3_Unlike ?v4_Unlike ?v5_Unlike ?v6_Unlike ?v7_Unlike ?v1_BadText ?v2_BadText ?v3_BadText ?v4_BadText ?v5_BadText ?v6_BadText ?v7_BadText ?v1_BadProgram ?v2_BadProgram ?v3_BadProgram ?v4_BadProgram ?v5_BadProgram ?v6_BadProgram ?v7_BadProgram ?n_NoShare_NoDie ?s_NoShare_NoDie ?n_NoSpread_NoDie ?s_NoSpread_NoDie ?n_NoAnswer_NoDie ?s_NoAnswer_NoDie ?s_NoDie_NoDie ?n_TooMany_NoDie ?s_TooMany_NoDie ?n_PastPurse_NoDie ?s_PastPurse_NoDie ?n_Unlike_NoDie ?s_Unlike_NoDie ?n_BadText_NoDie ?s_BadText_NoDie ?n_BadProgram_NoDie ?s_BadProgram_NoDie ?n_NoShare_NoAnswer ?s_NoShare_NoAnswer ?n_NoSpread_NoAnswer ?s_NoSpread_NoAnswer ?s_NoAnswer_NoAnswer ?n_NoDie_NoAnswer ?s_NoDie_NoAnswer ?n_TooMany_NoAnswer ?s_TooMany_NoAnswer ?n_PastPurse_NoAnswer ?s_PastPurse_NoAnswer ?n_Unlike_NoAnswer ?s_Unlike_NoAnswer ?n_BadText_NoAnswer ?s_BadText_NoAnswer ?n_BadProgram_NoAnswer ?s_BadProgram_NoAnswer ?n_NoShare_NoSpread ?s_NoShare_NoSpread ?s_NoSpread_NoSpread ?n_NoAnswer_NoSpread ?s_NoAnswer_NoSpread ?n_NoDie_NoSpread ?s_NoDie_NoSpread ?n_TooMany_NoSpread ?s_TooMany_NoSpread ?n_PastPurse_NoSpread ?s_PastPurse_NoSpread ?n_Unlike_NoSpread ?s_Unlike_NoSpread ?n_BadText_NoSpread ?s_BadText_NoSpread ?n_BadProgram_NoSpread ?s_BadProgram_NoSpread ?s_NoShare_NoShare ?n_NoSpread_NoShare ?s_NoSpread_NoShare ?n_NoAnswer_NoShare ?s_NoAnswer_NoShare ?n_NoDie_NoShare ?s_NoDie_NoShare ?n_TooMany_NoShare ?s_TooMany_NoShare ?n_PastPurse_NoShare ?s_PastPurse_NoShare ?n_Unlike_NoShare ?s_Unlike_NoShare ?n_BadText_NoShare ?s_BadText_NoShare ?n_BadProgram_NoShare ?s_BadProgram_NoShare ?n_NoShare_Unlike ?s_NoShare_Unlike ?n_NoSpread_Unlike ?s_NoSpread_Unlike ?n_NoAnswer_Unlike ?s_NoAnswer_Unlike ?n_NoDie_Unlike ?s_NoDie_Unlike ?n_TooMany_Unlike ?s_TooMany_Unlike ?n_PastPurse_Unlike ?s_PastPurse_Unlike ?s_Unlike_Unlike ?n_BadText_Unlike ?s_BadText_Unlike ?n_BadProgram_Unlike ?s_BadProgram_Unlike ?n_NoShare_PastPurse ?s_NoShare_PastPurse ?n_NoSpread_PastPurse ?s_NoSpread_PastPurse ?n_NoAnswer_PastPurse ?s_NoAnswer_PastPurse ?n_NoDie_PastPurse ?s_NoDie_PastPurse ?n_TooMany_PastPurse ?s_TooMany_PastPurse ?s_PastPurse_PastPurse ?n_Unlike_PastPurse ?s_Unlike_PastPurse ?n_BadText_PastPurse ?s_BadText_PastPurse ?n_BadProgram_PastPurse ?s_BadProgram_PastPurse ?n_NoShare_TooMany ?s_NoShare_TooMany ?n_NoSpread_TooMany ?s_NoSpread_TooMany ?n_NoAnswer_TooMany ?s_NoAnswer_TooMany ?n_NoDie_TooMany ?s_NoDie_TooMany ?s_TooMany_TooMany ?n_PastPurse_TooMany ?s_PastPurse_TooMany ?n_Unlike_TooMany ?s_Unlike_TooMany ?n_BadText_TooMany ?s_BadText_TooMany ?n_BadProgram_TooMany ?s_BadProgram_TooMany ?n_NoShare_BadProgram ?s_NoShare_BadProgram ?n_NoSpread_BadProgram ?s_NoSpread_BadProgram ?n_NoAnswer_BadProgram ?s_NoAnswer_BadProgram ?n_NoDie_BadProgram ?s_NoDie_BadProgram ?n_TooMany_BadProgram ?s_TooMany_BadProgram ?n_PastPurse_BadProgram ?s_PastPurse_BadProgram ?n_Unlike_BadProgram ?s_Unlike_BadProgram ?n_BadText_BadProgram ?s_BadText_BadProgram ?s_BadProgram_BadProgram ?n_NoShare_BadText ?s_NoShare_BadText ?n_NoSpread_BadText ?s_NoSpread_BadText ?n_NoAnswer_BadText ?s_NoAnswer_BadText ?n_NoDie_BadText ?s_NoDie_BadText ?n_TooMany_BadText ?s_TooMany_BadText ?n_PastPurse_BadText ?s_PastPurse_BadText ?n_Unlike_BadText ?s_Unlike_BadText ?s_BadText_BadText ?n_BadProgram_BadText ?s_BadProgram_BadText ?s_NoShare_BlurError ?s_NoSpread_BlurError ?s_NoAnswer_BlurError ?s_NoDie_BlurError ?s_TooMany_BlurError ?s_PastPurse_BlurError ?s_Unlike_BlurError ?s_BadText_BlurError ?s_BadProgram_BlurError ?w_NoShare ?w_NoSpread ?w_NoAnswer ?w_NoDie ?w_TooMany ?w_PastPurse ?w_Unlike ?w_BadText ?w_BadProgram
    (case a1 => k_is); (case l1 => k_is); (case c1 => k_is); (case k1 => k_is); (case a2 => k_is); (case l2 => k_is)
    (case c2 => k_is); (case k2 => k_is); (case a3 => k_is); (case l3 => k_is); (case c3 => k_is); (case k3 => k_is)
    (case a4 => k_is); (case l4 => k_is); (case c4 => k_is); (case k4 => k_is); (case z1 => k_is); (case z2 => k_is)
    (case z3 => k_is); (case z4 => k_is); (case z5 => k_is); (case z6 => k_is); (case z7 => k_is); (case g_NoShare => k_is)
    (case u_NoShare => k_is); (case t_NoShare => k_is); (case x_NoShare => k_exc); (case e_NoShare => k_is); (case i_NoShare => k_is); (case g_NoSpread => k_is)
    (case u_NoSpread => k_is); (case t_NoSpread => k_is); (case x_NoSpread => k_exc); (case e_NoSpread => k_is); (case i_NoSpread => k_is); (case g_NoAnswer => k_is)
    (case u_NoAnswer => k_is); (case t_NoAnswer => k_is); (case x_NoAnswer => k_exc); (case e_NoAnswer => k_is); (case i_NoAnswer => k_is); (case g_NoDie => k_is)
    (case u_NoDie => k_is); (case t_NoDie => k_is); (case x_NoDie => k_exc); (case e_NoDie => k_is); (case i_NoDie => k_is); (case g_TooMany => k_is)
    (case u_TooMany => k_is); (case t_TooMany => k_is); (case x_TooMany => k_exc); (case e_TooMany => k_is); (case i_TooMany => k_is); (case g_PastPurse => k_is)
    (case u_PastPurse => k_is); (case t_PastPurse => k_is); (case x_PastPurse => k_exc); (case e_PastPurse => k_is); (case i_PastPurse => k_is); (case g_Unlike => k_is)
    (case u_Unlike => k_is); (case t_Unlike => k_is); (case x_Unlike => k_exc); (case e_Unlike => k_is); (case i_Unlike => k_is); (case g_BadText => k_is)
    (case u_BadText => k_is); (case t_BadText => k_is); (case i_BadText => k_is); (case g_BadProgram => k_is); (case u_BadProgram => k_is); (case t_BadProgram => k_is)
    (case i_BadProgram => k_is); (case g_BlurError => k_is); (case u_BlurError => k_is); (case t_BlurError => k_is); (case i_BlurError => k_is); (case e_BadText => k_is)
    (case oe_BadText => kernel_rfl); (case sa_BadText => k_is); (case in_BadText => k_is); (case li_BadText => k_is); (case ci_BadText => k_is); (case ki_BadText => k_is)
    (case ti_BadText => k_is); (case na_BadText_row => k_is); (case e_BadProgram => k_is); (case oe_BadProgram => kernel_rfl); (case sa_BadProgram => k_is); (case in_BadProgram => k_is)
    (case li_BadProgram => k_is); (case ci_BadProgram => k_is); (case ki_BadProgram => k_is); (case ti_BadProgram => k_is); (case na_BadProgram_at => k_is); (case na_BadProgram_why => k_is)
    (case bsp => k_is); (case brd => k_is); (case bfc => k_is); (case v1_NoShare => k_is); (case v2_NoShare => k_is); (case v3_NoShare => k_is)
    (case v4_NoShare => k_is); (case v5_NoShare => k_is); (case v6_NoShare => k_is); (case v7_NoShare => k_is); (case v1_NoSpread => k_is); (case v2_NoSpread => k_is)
    (case v3_NoSpread => k_is); (case v4_NoSpread => k_is); (case v5_NoSpread => k_is); (case v6_NoSpread => k_is); (case v7_NoSpread => k_is); (case v1_NoAnswer => k_is)
    (case v2_NoAnswer => k_is); (case v3_NoAnswer => k_is); (case v4_NoAnswer => k_is); (case v5_NoAnswer => k_is); (case v6_NoAnswer => k_is); (case v7_NoAnswer => k_is)
    (case v1_NoDie => k_is); (case v2_NoDie => k_is); (case v3_NoDie => k_is); (case v4_NoDie => k_is); (case v5_NoDie => k_is); (case v6_NoDie => k_is)
    (case v7_NoDie => k_is); (case v1_TooMany => k_is); (case v2_TooMany => k_is); (case v3_TooMany => k_is); (case v4_TooMany => k_is); (case v5_TooMany => k_is)
    (case v6_TooMany => k_is); (case v7_TooMany => k_is); (case v1_PastPurse => k_is); (case v2_PastPurse => k_is); (case v3_PastPurse => k_is); (case v4_PastPurse => k_is)
    (case v5_PastPurse => k_is); (case v6_PastPurse => k_is); (case v7_PastPurse => k_is); (case v1_Unlike => k_is); (case v2_Unlike => k_is); (case v3_Unlike => k_is)
    (case v4_Unlike => k_is); (case v5_Unlike => k_is); (case v6_Unlike => k_is); (case v7_Unlike => k_is); (case v1_BadText => k_is); (case v2_BadText => k_is)
    (case v3_BadText => k_is); (case v4_BadText => k_is); (case v5_BadText => k_is); (case v6_BadText => k_is); (case v7_BadText => k_is); (case v1_BadProgram => k_is)
    (case v2_BadProgram => k_is); (case v3_BadProgram => k_is); (case v4_BadProgram => k_is); (case v5_BadProgram => k_is); (case v6_BadProgram => k_is); (case v7_BadProgram => k_is)
    (case n_NoShare_NoDie => first | rfl | k_is); (case s_NoShare_NoDie => first | rfl | k_is); (case n_NoSpread_NoDie => first | rfl | k_is); (case s_NoSpread_NoDie => first | rfl | k_is); (case n_NoAnswer_NoDie => first | rfl | k_is); (case s_NoAnswer_NoDie => first | rfl | k_is)
    (case s_NoDie_NoDie => first | rfl | k_is); (case n_TooMany_NoDie => first | rfl | k_is); (case s_TooMany_NoDie => first | rfl | k_is); (case n_PastPurse_NoDie => first | rfl | k_is); (case s_PastPurse_NoDie => first | rfl | k_is); (case n_Unlike_NoDie => first | rfl | k_is)
    (case s_Unlike_NoDie => first | rfl | k_is); (case n_BadText_NoDie => first | rfl | k_is); (case s_BadText_NoDie => first | rfl | k_is); (case n_BadProgram_NoDie => first | rfl | k_is); (case s_BadProgram_NoDie => first | rfl | k_is); (case n_NoShare_NoAnswer => first | rfl | k_is)
    (case s_NoShare_NoAnswer => first | rfl | k_is); (case n_NoSpread_NoAnswer => first | rfl | k_is); (case s_NoSpread_NoAnswer => first | rfl | k_is); (case s_NoAnswer_NoAnswer => first | rfl | k_is); (case n_NoDie_NoAnswer => first | rfl | k_is); (case s_NoDie_NoAnswer => first | rfl | k_is)
    (case n_TooMany_NoAnswer => first | rfl | k_is); (case s_TooMany_NoAnswer => first | rfl | k_is); (case n_PastPurse_NoAnswer => first | rfl | k_is); (case s_PastPurse_NoAnswer => first | rfl | k_is); (case n_Unlike_NoAnswer => first | rfl | k_is); (case s_Unlike_NoAnswer => first | rfl | k_is)
    (case n_BadText_NoAnswer => first | rfl | k_is); (case s_BadText_NoAnswer => first | rfl | k_is); (case n_BadProgram_NoAnswer => first | rfl | k_is); (case s_BadProgram_NoAnswer => first | rfl | k_is); (case n_NoShare_NoSpread => first | rfl | k_is); (case s_NoShare_NoSpread => first | rfl | k_is)
    (case s_NoSpread_NoSpread => first | rfl | k_is); (case n_NoAnswer_NoSpread => first | rfl | k_is); (case s_NoAnswer_NoSpread => first | rfl | k_is); (case n_NoDie_NoSpread => first | rfl | k_is); (case s_NoDie_NoSpread => first | rfl | k_is); (case n_TooMany_NoSpread => first | rfl | k_is)
    (case s_TooMany_NoSpread => first | rfl | k_is); (case n_PastPurse_NoSpread => first | rfl | k_is); (case s_PastPurse_NoSpread => first | rfl | k_is); (case n_Unlike_NoSpread => first | rfl | k_is); (case s_Unlike_NoSpread => first | rfl | k_is); (case n_BadText_NoSpread => first | rfl | k_is)
    (case s_BadText_NoSpread => first | rfl | k_is); (case n_BadProgram_NoSpread => first | rfl | k_is); (case s_BadProgram_NoSpread => first | rfl | k_is); (case s_NoShare_NoShare => first | rfl | k_is); (case n_NoSpread_NoShare => first | rfl | k_is); (case s_NoSpread_NoShare => first | rfl | k_is)
    (case n_NoAnswer_NoShare => first | rfl | k_is); (case s_NoAnswer_NoShare => first | rfl | k_is); (case n_NoDie_NoShare => first | rfl | k_is); (case s_NoDie_NoShare => first | rfl | k_is); (case n_TooMany_NoShare => first | rfl | k_is); (case s_TooMany_NoShare => first | rfl | k_is)
    (case n_PastPurse_NoShare => first | rfl | k_is); (case s_PastPurse_NoShare => first | rfl | k_is); (case n_Unlike_NoShare => first | rfl | k_is); (case s_Unlike_NoShare => first | rfl | k_is); (case n_BadText_NoShare => first | rfl | k_is); (case s_BadText_NoShare => first | rfl | k_is)
    (case n_BadProgram_NoShare => first | rfl | k_is); (case s_BadProgram_NoShare => first | rfl | k_is); (case n_NoShare_Unlike => first | rfl | k_is); (case s_NoShare_Unlike => first | rfl | k_is); (case n_NoSpread_Unlike => first | rfl | k_is); (case s_NoSpread_Unlike => first | rfl | k_is)
    (case n_NoAnswer_Unlike => first | rfl | k_is); (case s_NoAnswer_Unlike => first | rfl | k_is); (case n_NoDie_Unlike => first | rfl | k_is); (case s_NoDie_Unlike => first | rfl | k_is); (case n_TooMany_Unlike => first | rfl | k_is); (case s_TooMany_Unlike => first | rfl | k_is)
    (case n_PastPurse_Unlike => first | rfl | k_is); (case s_PastPurse_Unlike => first | rfl | k_is); (case s_Unlike_Unlike => first | rfl | k_is); (case n_BadText_Unlike => first | rfl | k_is); (case s_BadText_Unlike => first | rfl | k_is); (case n_BadProgram_Unlike => first | rfl | k_is)
    (case s_BadProgram_Unlike => first | rfl | k_is); (case n_NoShare_PastPurse => first | rfl | k_is); (case s_NoShare_PastPurse => first | rfl | k_is); (case n_NoSpread_PastPurse => first | rfl | k_is); (case s_NoSpread_PastPurse => first | rfl | k_is); (case n_NoAnswer_PastPurse => first | rfl | k_is)
    (case s_NoAnswer_PastPurse => first | rfl | k_is); (case n_NoDie_PastPurse => first | rfl | k_is); (case s_NoDie_PastPurse => first | rfl | k_is); (case n_TooMany_PastPurse => first | rfl | k_is); (case s_TooMany_PastPurse => first | rfl | k_is); (case s_PastPurse_PastPurse => first | rfl | k_is)
    (case n_Unlike_PastPurse => first | rfl | k_is); (case s_Unlike_PastPurse => first | rfl | k_is); (case n_BadText_PastPurse => first | rfl | k_is); (case s_BadText_PastPurse => first | rfl | k_is); (case n_BadProgram_PastPurse => first | rfl | k_is); (case s_BadProgram_PastPurse => first | rfl | k_is)
    (case n_NoShare_TooMany => first | rfl | k_is); (case s_NoShare_TooMany => first | rfl | k_is); (case n_NoSpread_TooMany => first | rfl | k_is); (case s_NoSpread_TooMany => first | rfl | k_is); (case n_NoAnswer_TooMany => first | rfl | k_is); (case s_NoAnswer_TooMany => first | rfl | k_is)
    (case n_NoDie_TooMany => first | rfl | k_is); (case s_NoDie_TooMany => first | rfl | k_is); (case s_TooMany_TooMany => first | rfl | k_is); (case n_PastPurse_TooMany => first | rfl | k_is); (case s_PastPurse_TooMany => first | rfl | k_is); (case n_Unlike_TooMany => first | rfl | k_is)
    (case s_Unlike_TooMany => first | rfl | k_is); (case n_BadText_TooMany => first | rfl | k_is); (case s_BadText_TooMany => first | rfl | k_is); (case n_BadProgram_TooMany => first | rfl | k_is); (case s_BadProgram_TooMany => first | rfl | k_is); (case n_NoShare_BadProgram => first | rfl | k_is)
    (case s_NoShare_BadProgram => first | rfl | k_is); (case n_NoSpread_BadProgram => first | rfl | k_is); (case s_NoSpread_BadProgram => first | rfl | k_is); (case n_NoAnswer_BadProgram => first | rfl | k_is); (case s_NoAnswer_BadProgram => first | rfl | k_is); (case n_NoDie_BadProgram => first | rfl | k_is)
    (case s_NoDie_BadProgram => first | rfl | k_is); (case n_TooMany_BadProgram => first | rfl | k_is); (case s_TooMany_BadProgram => first | rfl | k_is); (case n_PastPurse_BadProgram => first | rfl | k_is); (case s_PastPurse_BadProgram => first | rfl | k_is); (case n_Unlike_BadProgram => first | rfl | k_is)
    (case s_Unlike_BadProgram => first | rfl | k_is); (case n_BadText_BadProgram => first | rfl | k_is); (case s_BadText_BadProgram => first | rfl | k_is); (case s_BadProgram_BadProgram => first | rfl | k_is); (case n_NoShare_BadText => first | rfl | k_is); (case s_NoShare_BadText => first | rfl | k_is)
    (case n_NoSpread_BadText => first | rfl | k_is); (case s_NoSpread_BadText => first | rfl | k_is); (case n_NoAnswer_BadText => first | rfl | k_is); (case s_NoAnswer_BadText => first | rfl | k_is); (case n_NoDie_BadText => first | rfl | k_is); (case s_NoDie_BadText => first | rfl | k_is)
    (case n_TooMany_BadText => first | rfl | k_is); (case s_TooMany_BadText => first | rfl | k_is); (case n_PastPurse_BadText => first | rfl | k_is); (case s_PastPurse_BadText => first | rfl | k_is); (case n_Unlike_BadText => first | rfl | k_is); (case s_Unlike_BadText => first | rfl | k_is)
    (case s_BadText_BadText => first | rfl | k_is); (case n_BadProgram_BadText => first | rfl | k_is); (case s_BadProgram_BadText => first | rfl | k_is); (case s_NoShare_BlurError => first | rfl | k_is); (case s_NoSpread_BlurError => first | rfl | k_is); (case s_NoAnswer_BlurError => first | rfl | k_is)
    (case s_NoDie_BlurError => first | rfl | k_is); (case s_TooMany_BlurError => first | rfl | k_is); (case s_PastPurse_BlurError => first | rfl | k_is); (case s_Unlike_BlurError => first | rfl | k_is); (case s_BadText_BlurError => first | rfl | k_is); (case s_BadProgram_BlurError => first | rfl | k_is)
    (case w_NoShare => first | rfl | k_is); (case w_NoSpread => first | rfl | k_is); (case w_NoAnswer => first | rfl | k_is); (case w_NoDie => first | rfl | k_is); (case w_TooMany => first | rfl | k_is); (case w_PastPurse => first | rfl | k_is)
    (case w_Unlike => first | rfl | k_is); (case w_BadText => first | rfl | k_is); (case w_BadProgram => first | rfl | k_is)
#print axioms PySem.Challenge.cw_blurdesk_k04_refusals_apart_holds
