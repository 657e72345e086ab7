import PyProof.Rows.All
import Wide.All
import OpenK.AllK
import Wide.FinOn
import HandS.ForExc
import HandS.ForMost
import HandS.Wide
import HandS.ExcOwn
import HandS.TupAny
import HandS.TupMul
import KE.DataCmp
import KE.SortData
import HandS.TupLen
import HandS.IsInst
import HandS.EndBits
import HandS.Zip
import HandS.ExcIs
import KE.DataMinMax
import KE.DataFind
import HandS.Conv
import HandS.Deep
import HandS.Style
import HandS.Text
import HandS.SetFor
import KE.GoesEnum
import HandS.Iter
import HandS.RevTup
import HandS.Rev
import HandS.DictComp
import HandS.Set
import HandS.TupSets
import HandS.SetKeys
import HandS.SortKw
import HandS.DictSubView
import KE.KDictWalk
import KE.KEqDict
import PyProof.DictUpdate
import PyProof.FactsAll.dict_4
import KE.KDictPairs
import KE.KIndexOf
import PyProof.SeqIndex
import PyProof.FactsAll.tuple_0
import PyProof.FactsAll.tuple_2
import HandS.FStr
import PyProof.SumAny
import HandS.TryMany
import HandS.ExcField
import HandS.ExcInit
import PyProof.StrOps2
import HandS.HeadHook3
import PySem.Challenge.RW_blurdesk_k84_tables_refused
set_option Elab.async false
set_option linter.all false
set_option maxRecDepth 100000
set_option maxHeartbeats 4000000
/-! Plain data over the hand layer: values without addresses; lists and dicts by value, changed in place only through the one name that holds them. -/
namespace DL
open PySem PySem.Spec PyProof.Rows L2

/-- a value, whole -/
inductive D where
  | non
  | bl (b : Bool)
  | int (i : Int)
  | str (x : Str)
  | obj (v : V)
  | tup (xs : List D)
  | con (xs : List D)
  | lst (xs : List D)
  | dct (t : Bool) (kvs : List (D × D))
  | err (c : String) (kvs : List (D × D))
  | exn (a d : Addr) (kvs : List (D × D))

/-- what comes of a reckoning -/
inductive Res (α : Type) where
  | ok (a : α)
  | exc (c : String) (fs : List (D × D))
  | bad

def Res.bind {α β : Type} (r : Res α) (f : α → Res β) : Res β := match r with
  | .ok a => f a
  | .exc c fs => .exc c fs
  | .bad => .bad
@[simp] theorem Res.bind_ok {α β : Type} (a : α) (f : α → Res β) : (Res.ok a).bind f = f a := Eq.trans rfl rfl
@[simp] theorem Res.bind_exc {α β : Type} (c : String) (fs : List (D × D)) (f : α → Res β) : (Res.exc c fs : Res α).bind f = .exc c fs := Eq.trans rfl rfl
@[simp] theorem Res.bind_bad {α β : Type} (f : α → Res β) : (Res.bad : Res α).bind f = .bad := Eq.trans rfl rfl

/-- keys of dicts -/
def keyD : Key → D
  | .inl i => .int i
  | .inr x => .str x
def keyT (k : List Key) : D := .tup (k.map keyD)

/-- a tuple without a dict of its own -/
def PlT (K : PySem.W.Frag) (G : Hp) (a : Addr) (xs : List V) : Prop :=
  (∃ o, G a = some (.frz o (.tup xs)) ∧ o.dict = none) ∨
    ∃ (o : Obj) (its : Array Value) (n : Nat), K.lookup a = some o ∧ o.cls = .type "tuple" ∧ o.dict = none ∧ o.data = .seq its n ∧ its.size ≤ sizeLine ∧ Vals xs its.toList
theorem PlT.sqt {K : PySem.W.Frag} {G : Hp} {a : Addr} {xs : List V} (h : PlT K G a xs) : SqT K G a xs := by
  rcases h with ⟨o, h, _⟩ | ⟨o, its, n, h1, h2, _, h3, h4, h5⟩
  · exact .inl (.inr ⟨o, h⟩)
  · exact .inr ⟨o, its, n, h1, h2, h3, h4, h5⟩

/-- what stands at a: an error object of the class at C, its dict d -/
def ErrH (C : Addr) (d : Option Addr) (a : Addr) (o : HO) : Prop := ∀ (P : Program) (w : World) (H : Hp) (h : Heap), ObjOk P w H h a o → ∃ (oe : Obj) (vs : Array Value), h.get? a = some oe ∧ Zc (.ref C) d oe ∧ oe.data = .fields vs
/-- .. and an error's dict -/
def XdH (ps : List (Str × V)) (d : Addr) (o : HO) : Prop := ∀ (P : Program) (w : World) (H : Hp) (h : Heap), ObjOk P w H h d o → ∃ mA, h.Ns1 d mA ∧ ∀ f, RelO (ps.lookup f) (mA f)
mutual
/-- the value v is the data d, over the heap's part G -/
def Rep (K : PySem.W.Frag) (G : Hp) : D → V → Prop
  | .non, v => v = .non
  | .bl b, v => v = .bl b
  | .int i, v => v = .int i
  | .str x, v => v = .str x
  | .obj u, v => v = u
  | .tup ds, v => ∃ a vs, v = .ref a ∧ G a = some (.tup vs) ∧ RepL K G ds vs
  | .con ds, v => ∃ a vs, v = .ref a ∧ PlT K G a vs ∧ RepL K G ds vs
  | .lst ds, v => ∃ a vs, v = .ref a ∧ SqL K G a vs ∧ RepL K G ds vs
  | .dct t kvs, v => ∃ a, v = .ref a ∧ ((t = false ∧ ∃ od ps, G a = some (.frz od (.dK ps)) ∧ kvs.map (·.1) = ps.map (fun p => keyD p.1) ∧ RepV K G kvs (ps.map (·.2))) ∨
      (t = true ∧ ∃ od ps, G a = some (.frz od (.dT ps)) ∧ kvs.map (·.1) = ps.map (fun p => keyT p.1) ∧ RepV K G kvs (ps.map (·.2))))
  | .err c kvs, v => ∃ a C, v = .ref a ∧ PySem.W.nsIn K mainGlobals (Str.ofString c) = some (some (.ref C)) ∧ ((kvs = [] ∧ ∃ o, G a = some o ∧ ErrH C none a o) ∨
      ∃ dd ps o o2, G a = some o ∧ ErrH C (some dd) a o ∧ G dd = some o2 ∧ XdH ps dd o2 ∧ kvs.map (·.1) = ps.map (fun p => D.str p.1) ∧ RepV K G kvs (ps.map (·.2)))
  | .exn a d kvs, v => v = .ref a ∧ ∃ ps, G d = some (.xd ps) ∧ kvs.map (·.1) = ps.map (fun p => D.str p.1) ∧ RepV K G kvs (ps.map (·.2))
def RepL (K : PySem.W.Frag) (G : Hp) : List D → List V → Prop
  | [], vs => vs = []
  | d :: ds, vs => ∃ v r, vs = v :: r ∧ Rep K G d v ∧ RepL K G ds r
def RepV (K : PySem.W.Frag) (G : Hp) : List (D × D) → List V → Prop
  | [], vs => vs = []
  | (_, d) :: r, vs => ∃ v r', vs = v :: r' ∧ Rep K G d v ∧ RepV K G r r'
end

/-- the part G lies in H -/
def Sub (G H : Hp) : Prop := ∀ b o, G b = some o → H b = some o
theorem Sub.refl (H : Hp) : Sub H H := fun _ _ e => e
theorem Sub.trans {A B C : Hp} (h : Sub A B) (k : Sub B C) : Sub A C := fun b o e => k b o (h b o e)
theorem Sub.rd {G H : Hp} (h : Sub G H) {a : Addr} {u : HO} (r : Rd G a u) : Rd H a u := by
  rcases r with r | ⟨o, r⟩
  · exact .inl (h _ _ r)
  · exact .inr ⟨o, h _ _ r⟩
theorem Sub.sql {K : PySem.W.Frag} {G H : Hp} (h : Sub G H) {a : Addr} {xs : List V} (r : SqL K G a xs) : SqL K H a xs := by
  rcases r with r | r
  · exact .inl (h.rd r)
  · exact .inr r
theorem Sub.sqt {K : PySem.W.Frag} {G H : Hp} (h : Sub G H) {a : Addr} {xs : List V} (r : SqT K G a xs) : SqT K H a xs := by
  rcases r with r | r
  · exact .inl (h.rd r)
  · exact .inr r
theorem Sub.plt {K : PySem.W.Frag} {G H : Hp} (h : Sub G H) {a : Addr} {xs : List V} (r : PlT K G a xs) : PlT K H a xs := by
  rcases r with ⟨o, r, d⟩ | r
  · exact .inl ⟨o, h _ _ r, d⟩
  · exact .inr r
theorem Sub.pt {K : PySem.W.Frag} {G H : Hp} (h : Sub G H) {a : Addr} {xs : List V} (r : G a = some (.tup xs)) : SqT K H a xs := SqT.of (h a _ r)
theorem Sub.upd {H : Hp} {a : Addr} {o : HO} (h : H a = none) : Sub H (upd H a o) := fun b u e => by
  rw [upd_ne (ne_of_none e h)]; exact e
theorem Sub.free {G H : Hp} (h : Sub G H) {a : Addr} (e : H a = none) : G a = none := by
  cases q : G a with
  | none => rfl
  | some o => rw [h _ _ q] at e; cases e

mutual
theorem Rep.mono {K : PySem.W.Frag} {G H : Hp} (h : Sub G H) : ∀ {d : D} {v : V}, Rep K G d v → Rep K H d v
  | .non, _, e => e
  | .bl _, _, e => e
  | .int _, _, e => e
  | .str _, _, e => e
  | .obj _, _, e => e
  | .tup _, _, ⟨a, vs, e, s, r⟩ => ⟨a, vs, e, h a _ s, RepL.mono h r⟩
  | .con _, _, ⟨a, vs, e, s, r⟩ => ⟨a, vs, e, h.plt s, RepL.mono h r⟩
  | .lst _, _, ⟨a, vs, e, s, r⟩ => ⟨a, vs, e, h.sql s, RepL.mono h r⟩
  | .dct _ _, _, ⟨a, e, .inl ⟨t0, od, ps, s, k, r⟩⟩ => ⟨a, e, .inl ⟨t0, od, ps, h a _ s, k, RepV.mono h r⟩⟩
  | .dct _ _, _, ⟨a, e, .inr ⟨t0, od, ps, s, k, r⟩⟩ => ⟨a, e, .inr ⟨t0, od, ps, h a _ s, k, RepV.mono h r⟩⟩
  | .exn _ _ _, _, ⟨e, ps, s, k, r⟩ => ⟨e, ps, h _ _ s, k, RepV.mono h r⟩
  | .err _ _, _, ⟨a, C, e, n, .inl ⟨k, o, s, z⟩⟩ => ⟨a, C, e, n, .inl ⟨k, o, h a _ s, z⟩⟩
  | .err _ _, _, ⟨a, C, e, n, .inr ⟨dd, ps, o, o2, s, z, s2, z2, k, r⟩⟩ => ⟨a, C, e, n, .inr ⟨dd, ps, o, o2, h a _ s, z, h dd _ s2, z2, k, RepV.mono h r⟩⟩
theorem RepL.mono {K : PySem.W.Frag} {G H : Hp} (h : Sub G H) : ∀ {ds : List D} {vs : List V}, RepL K G ds vs → RepL K H ds vs
  | [], _, e => e
  | _ :: _, _, ⟨v, r, e, x, y⟩ => ⟨v, r, e, Rep.mono h x, RepL.mono h y⟩
theorem RepV.mono {K : PySem.W.Frag} {G H : Hp} (h : Sub G H) : ∀ {ds : List (D × D)} {vs : List V}, RepV K G ds vs → RepV K H ds vs
  | [], _, e => e
  | (_, _) :: _, _, ⟨v, r, e, x, y⟩ => ⟨v, r, e, Rep.mono h x, RepV.mono h y⟩
end

section
variable {K : PySem.W.Frag} {G : Hp}
theorem RepL.nil : RepL K G [] [] := rfl
theorem RepL.cons {d : D} {v : V} {ds : List D} {vs : List V} (h : Rep K G d v) (t : RepL K G ds vs) : RepL K G (d :: ds) (v :: vs) := ⟨v, vs, rfl, h, t⟩
theorem RepL.length : ∀ {ds : List D} {vs : List V}, RepL K G ds vs → vs.length = ds.length
  | [], _, e => by rw [show _ = [] from e]; rfl
  | _ :: _, _, ⟨v, r, e, x, y⟩ => by rw [e, List.length_cons, List.length_cons, RepL.length y]
theorem RepL.get : ∀ {ds : List D} {vs : List V} {i : Nat} {d : D}, RepL K G ds vs → ds[i]? = some d → ∃ v, vs[i]? = some v ∧ Rep K G d v
  | _ :: _, _, 0, _, ⟨v, r, e, x, y⟩, h => by cases h; exact ⟨v, by rw [e]; rfl, x⟩
  | _ :: _, _, i + 1, d, ⟨v, r, e, x, y⟩, h => by
    obtain ⟨w, h1, h2⟩ := RepL.get (i := i) (d := d) y (by simpa using h)
    exact ⟨w, by rw [e]; simpa using h1, h2⟩
theorem RepL.get' : ∀ {ds : List D} {vs : List V} {i : Nat} {v : V}, RepL K G ds vs → vs[i]? = some v → ∃ d, ds[i]? = some d ∧ Rep K G d v
  | [], _, i, v, e, h => by rw [show _ = [] from e] at h; simp at h
  | d :: _, _, 0, v, ⟨w, r, e, x, y⟩, h => by rw [e] at h; cases h; exact ⟨d, rfl, x⟩
  | _ :: _, _, i + 1, v, ⟨w, r, e, x, y⟩, h => by
    rw [e] at h
    obtain ⟨d, h1, h2⟩ := RepL.get' (i := i) (v := v) y (by simpa using h)
    exact ⟨d, by simpa using h1, h2⟩
theorem RepL.append : ∀ {ds es : List D} {vs ws : List V}, RepL K G ds vs → RepL K G es ws → RepL K G (ds ++ es) (vs ++ ws)
  | [], _, _, _, e, t => by rw [show _ = [] from e]; exact t
  | _ :: _, _, _, _, ⟨v, r, e, x, y⟩, t => by rw [e]; exact ⟨v, _, rfl, x, RepL.append y t⟩
theorem RepL.drop : ∀ {ds : List D} {vs : List V} (n : Nat), RepL K G ds vs → RepL K G (ds.drop n) (vs.drop n)
  | _, _, 0, h => h
  | [], _, n + 1, e => by rw [show _ = [] from e]; rfl
  | _ :: _, _, n + 1, ⟨v, r, e, x, y⟩ => by rw [e]; exact RepL.drop n y
theorem RepL.take : ∀ {ds : List D} {vs : List V} (n : Nat), RepL K G ds vs → RepL K G (ds.take n) (vs.take n)
  | _, _, 0, h => rfl
  | [], _, n + 1, e => by rw [show _ = [] from e]; rfl
  | _ :: _, _, n + 1, ⟨v, r, e, x, y⟩ => by rw [e]; exact ⟨v, _, rfl, x, RepL.take n y⟩
theorem RepL.set {d : D} {v : V} (h : Rep K G d v) : ∀ {ds : List D} {vs : List V} (n : Nat), RepL K G ds vs → RepL K G (ds.set n d) (vs.set n v)
  | [], _, n, e => by rw [show _ = [] from e]; rfl
  | _ :: _, _, 0, ⟨w, r, e, x, y⟩ => by rw [e]; exact ⟨v, r, rfl, h, y⟩
  | _ :: _, _, n + 1, ⟨w, r, e, x, y⟩ => by rw [e]; exact ⟨w, _, rfl, x, RepL.set h n y⟩
theorem RepL.reverse : ∀ {ds : List D} {vs : List V}, RepL K G ds vs → RepL K G ds.reverse vs.reverse
  | [], _, e => by rw [show _ = [] from e]; rfl
  | _ :: _, _, ⟨w, r, e, x, y⟩ => by rw [e, List.reverse_cons, List.reverse_cons]; exact RepL.append (RepL.reverse y) ⟨w, [], rfl, x, rfl⟩
theorem RepL.ints : ∀ {ns : List Int} {vs : List V}, RepL K G (ns.map D.int) vs → vs = ns.map V.int
  | [], _, e => e
  | _ :: _, _, ⟨v, r, e, x, y⟩ => by rw [e, show v = _ from x, RepL.ints y]; rfl
theorem RepL.of_ints : ∀ (ns : List Int), RepL K G (ns.map D.int) (ns.map V.int)
  | [] => rfl
  | n :: ns => ⟨_, _, rfl, rfl, RepL.of_ints ns⟩
theorem RepL.strs : ∀ {ns : List Str} {vs : List V}, RepL K G (ns.map D.str) vs → vs = ns.map V.str
  | [], _, e => e
  | _ :: _, _, ⟨v, r, e, x, y⟩ => by rw [e, show v = _ from x, RepL.strs y]; rfl
theorem RepL.bls : ∀ {ns : List Bool} {vs : List V}, RepL K G (ns.map D.bl) vs → vs = ns.map V.bl
  | [], _, e => e
  | _ :: _, _, ⟨v, r, e, x, y⟩ => by rw [e, show v = _ from x, RepL.bls y]; rfl
theorem Rep.tup {a : Addr} {ds : List D} {vs : List V} (h : G a = some (.tup vs)) (r : RepL K G ds vs) : Rep K G (.tup ds) (.ref a) := ⟨a, vs, rfl, h, r⟩
theorem Rep.lst {a : Addr} {ds : List D} {vs : List V} (h : SqL K G a vs) (r : RepL K G ds vs) : Rep K G (.lst ds) (.ref a) := ⟨a, vs, rfl, h, r⟩
end

def D.isDct : D → Bool
  | .dct _ _ => true
  | _ => false
/-- a value whose outer list or dict is read in H, its items in G -/
def RepC (K : PySem.W.Frag) (H G : Hp) : D → V → Prop
  | .lst ds, v => ∃ a vs, v = .ref a ∧ SqL K H a vs ∧ RepL K G ds vs
  | .dct t kvs, v => ∃ a, v = .ref a ∧ ((t = false ∧ ∃ ps, Rd H a (.dK ps) ∧ kvs.map (·.1) = ps.map (fun p => keyD p.1) ∧ RepV K G kvs (ps.map (·.2))) ∨
      (t = true ∧ ∃ ps, Rd H a (.dT ps) ∧ kvs.map (·.1) = ps.map (fun p => keyT p.1) ∧ RepV K G kvs (ps.map (·.2))))
  | d, v => Rep K G d v
theorem Rep.c {K : PySem.W.Frag} {G H : Hp} (h : Sub G H) : ∀ {d : D} {v : V}, Rep K G d v → RepC K H G d v
  | .non, _, e => e
  | .bl _, _, e => e
  | .int _, _, e => e
  | .str _, _, e => e
  | .obj _, _, e => e
  | .tup _, _, e => e
  | .con _, _, e => e
  | .lst _, _, ⟨a, vs, e, s, r⟩ => ⟨a, vs, e, h.sql s, r⟩
  | .dct _ _, _, ⟨a, e, .inl ⟨t0, od, ps, s, k, r⟩⟩ => ⟨a, e, .inl ⟨t0, ps, .inr ⟨od, h a _ s⟩, k, r⟩⟩
  | .dct _ _, _, ⟨a, e, .inr ⟨t0, od, ps, s, k, r⟩⟩ => ⟨a, e, .inr ⟨t0, ps, .inr ⟨od, h a _ s⟩, k, r⟩⟩
  | .err _ _, _, e => e
  | .exn _ _ _, _, e => e
theorem RepC.all {K : PySem.W.Frag} {G H : Hp} (h : Sub G H) : ∀ {d : D} {v : V}, RepC K H G d v → d.isDct = false → Rep K H d v
  | .non, _, e, _ => e
  | .bl _, _, e, _ => e
  | .int _, _, e, _ => e
  | .str _, _, e, _ => e
  | .obj _, _, e, _ => e
  | .tup _, _, e, _ => Rep.mono h e
  | .con _, _, e, _ => Rep.mono h e
  | .lst _, _, ⟨a, vs, e, s, r⟩, _ => ⟨a, vs, e, s, RepL.mono h r⟩
  | .dct _ _, _, _, n => by cases n
  | .err _ _, _, e, _ => Rep.mono h e
  | .exn _ _ _, _, e, _ => Rep.mono h e
theorem RepC.mono {K : PySem.W.Frag} {G H G' H' : Hp} (h : Sub H H') (g : Sub G G') : ∀ {d : D} {v : V}, RepC K H G d v → RepC K H' G' d v
  | .non, _, e => e
  | .bl _, _, e => e
  | .int _, _, e => e
  | .str _, _, e => e
  | .obj _, _, e => e
  | .tup _, _, e => Rep.mono g e
  | .con _, _, e => Rep.mono g e
  | .lst _, _, ⟨a, vs, e, s, r⟩ => ⟨a, vs, e, h.sql s, RepL.mono g r⟩
  | .dct _ _, _, ⟨a, e, .inl ⟨t0, ps, s, k, r⟩⟩ => ⟨a, e, .inl ⟨t0, ps, h.rd s, k, RepV.mono g r⟩⟩
  | .dct _ _, _, ⟨a, e, .inr ⟨t0, ps, s, k, r⟩⟩ => ⟨a, e, .inr ⟨t0, ps, h.rd s, k, RepV.mono g r⟩⟩
  | .err _ _, _, e => Rep.mono g e
  | .exn _ _ _, _, e => Rep.mono g e

/-- at a stands the list or dict d, that can be changed; its items in G -/
def OwnC (K : PySem.W.Frag) (H G : Hp) : D → Addr → Prop
  | .lst ds, a => ∃ vs, H a = some (.lst vs) ∧ RepL K G ds vs
  | .dct t kvs, a => (t = false ∧ ∃ ps, H a = some (.dK ps) ∧ kvs.map (·.1) = ps.map (fun p => keyD p.1) ∧ RepV K G kvs (ps.map (·.2))) ∨
      (t = true ∧ ∃ ps, H a = some (.dT ps) ∧ kvs.map (·.1) = ps.map (fun p => keyT p.1) ∧ RepV K G kvs (ps.map (·.2)))
  | _, _ => False
theorem OwnC.c {K : PySem.W.Frag} {H G : Hp} {d : D} {a : Addr} (h : OwnC K H G d a) : RepC K H G d (.ref a) := by
  cases d with
  | lst ds => obtain ⟨vs, e, r⟩ := h; exact ⟨a, vs, rfl, SqL.of e, r⟩
  | dct t kvs =>
    rcases h with ⟨t0, ps, e, k, r⟩ | ⟨t0, ps, e, k, r⟩
    · exact ⟨a, rfl, .inl ⟨t0, ps, .inl e, k, r⟩⟩
    · exact ⟨a, rfl, .inr ⟨t0, ps, .inl e, k, r⟩⟩
  | _ => exact h.elim
theorem OwnC.is {K : PySem.W.Frag} {H G : Hp} {d : D} {a : Addr} (h : OwnC K H G d a) : H a ≠ none := by
  cases d with
  | lst ds => obtain ⟨vs, e, r⟩ := h; rw [e]; simp
  | dct t kvs => rcases h with ⟨t0, ps, e, k, r⟩ | ⟨t0, ps, e, k, r⟩ <;> rw [e] <;> simp
  | _ => exact h.elim
theorem OwnC.mono' {K : PySem.W.Frag} {H H' G G' : Hp} {d : D} {a : Addr} (h : OwnC K H G d a) (e' : ∀ o, H a = some o → H' a = some o) (sg : Sub G G') : OwnC K H' G' d a := by
  cases d with
  | lst ds => obtain ⟨vs, e, r⟩ := h; exact ⟨vs, e' _ e, r.mono sg⟩
  | dct t kvs =>
    rcases h with ⟨t0, ps, e, k, r⟩ | ⟨t0, ps, e, k, r⟩
    · exact .inl ⟨t0, ps, e' _ e, k, r.mono sg⟩
    · exact .inr ⟨t0, ps, e' _ e, k, r.mono sg⟩
  | _ => exact h.elim
theorem OwnC.mono {K : PySem.W.Frag} {H H' G G' : Hp} {d : D} {a : Addr} (h : OwnC K H G d a) (sh : Sub H H') (sg : Sub G G') : OwnC K H' G' d a := h.mono' (fun o => sh a o) sg
theorem OwnC.put {K : PySem.W.Frag} {H G G' : Hp} {d : D} {a : Addr} (h : OwnC K H G d a) (nd : d.isDct = false) (sg : Sub G G') (e' : G' a = H a) : Rep K G' d (.ref a) := by
  cases d with
  | lst ds => obtain ⟨vs, e, r⟩ := h; exact ⟨a, vs, rfl, SqL.of (e'.trans e), r.mono sg⟩
  | dct t kvs => cases nd
  | _ => exact h.elim
/-- a dict that is locked is all men's -/
theorem OwnC.lock {K : PySem.W.Frag} {H G G' : Hp} {d : D} {a : Addr} (h : OwnC K H G d a) (nd : d.isDct = true) (sg : Sub G G') : ∃ u, H a = some u ∧ Mut (some u) ∧ ∀ od, G' a = some (.frz od u) → Rep K G' d (.ref a) := by
  cases d with
  | dct t kvs =>
    rcases h with ⟨t0, ps, e, k, r⟩ | ⟨t0, ps, e, k, r⟩
    · exact ⟨_, e, trivial, fun od q => ⟨a, rfl, .inl ⟨t0, od, ps, q, k, r.mono sg⟩⟩⟩
    · exact ⟨_, e, trivial, fun od q => ⟨a, rfl, .inr ⟨t0, od, ps, q, k, r.mono sg⟩⟩⟩
  | _ => cases nd
/-- things are locked, then P -/
inductive LockT (P : Hp → Prop) : Hp → Prop where
  | here {H : Hp} (h : P H) : LockT P H
  | lock {H : Hp} {d : Addr} {u : HO} (h : H d = some u) (mu : Mut (some u)) (k : ∀ od, LockT P (upd H d (.frz od u))) : LockT P H
theorem LockT.imp {P Q : Hp → Prop} {H : Hp} (h : LockT P H) (f : ∀ H, P H → Q H) : LockT Q H := by
  induction h with
  | here h => exact .here (f _ h)
  | lock h mu _ ih => exact .lock h mu ih
theorem LockT.bind {P Q : Hp → Prop} {H : Hp} (h : LockT P H) (f : ∀ H, P H → LockT Q H) : LockT Q H := by
  induction h with
  | here h => exact f _ h
  | lock h mu _ ih => exact .lock h mu ih
theorem LockT.inv {X : Cx} {pins : List (Addr × Obj)} {σ : L2.St} {s : Shared} {P : Hp → Prop} {H : Hp} (h : LockT P H) (I : Inv X pins σ H s) : ∃ H', Inv X pins σ H' s ∧ P H' := by
  induction h with
  | here h => exact ⟨_, I, h⟩
  | lock h mu _ ih =>
    obtain ⟨od, I1⟩ := I.lock h mu
    exact ih od I1
theorem _root_.L2.PE.lk {X : Cx} {e : Expr} {t t' : TE} (h : PE X e t) (f : ∀ σ H Q, t' σ H Q → LockT (fun H => t σ H Q) H) : PE X e t' := ⟨fun pins s σ H Q I q => by
  obtain ⟨H', I', q'⟩ := (f σ H Q q).inv I
  exact h.run pins s σ H' Q I' q'⟩
theorem _root_.L2.PE.lkP {X : Cx} {e : Expr} {t t' : TE} (h : PE X e t) (f : ∀ σ H Q, t' σ H Q → t σ H fun v H => LockT (Q v) H) : PE X e t' := ⟨fun pins s σ H Q I q =>
  thn (h.run pins s σ H _ I (f σ H Q q)) fun v s1 ⟨x, H1, I1, r, q⟩ => by
    obtain ⟨H2, I2, q2⟩ := q.inv I1
    exact ⟨x, H2, I2, r, q2⟩⟩
theorem _root_.L2.PS.lk {X : Cx} {e : Stmt} {t t' : TS} (h : PS X e t) (f : ∀ D σ H, t' D σ H → LockT (t D σ) H) : PS X e t' := ⟨fun pins s σ H D I q => by
  obtain ⟨H', I', q'⟩ := (f D σ H q).inv I
  exact h.run pins s σ H' D I' q'⟩
theorem _root_.L2.PSs.lk {X : Cx} {e : List Stmt} {t t' : TS} (h : PSs X e t) (f : ∀ D σ H, t' D σ H → LockT (t D σ) H) : PSs X e t' := ⟨fun pins s σ H D I q => by
  obtain ⟨H', I', q'⟩ := (f D σ H q).inv I
  exact h.run pins s σ H' D I' q'⟩
/-- .. what is given back is locked -/
theorem _root_.L2.PSs.lkR {X : Cx} {e : List Stmt} {t t' : TS} (h : PSs X e t) (f : ∀ D σ H, t' D σ H → t { D with rt := fun v H => LockT (D.rt v) H } σ H) : PSs X e t' := ⟨fun pins s σ H D I q =>
  thn (h.run pins s σ H _ I (f D σ H q)) fun fl s1 q => by
    cases fl with
    | next => exact q
    | brk => exact q
    | cont => exact q
    | ret v =>
      obtain ⟨x, σ', H', I2, r, q⟩ := q
      obtain ⟨H2, I3, q2⟩ := q.inv I2
      exact ⟨x, σ', H2, I3, r, q2⟩⟩

/-- where nothing stood, or a tuple -/
def Fr1 (H : Hp) (b : Addr) : Prop := H b = none ∨ ∃ vs, H b = some (.tup vs)
theorem Fr1.back {H H1 : Hp} {b : Addr} (s : Sub H H1) (h : Fr1 H1 b) : Fr1 H b := by
  cases q : H b with
  | none => exact .inl q
  | some o =>
    have := s _ _ q
    rcases h with h | ⟨vs, h⟩
    · rw [h] at this; cases this
    · rw [h] at this; cases this; exact .inr ⟨vs, q⟩
theorem OwnC.nfr {K : PySem.W.Frag} {H G : Hp} {d : D} {a : Addr} (h : OwnC K H G d a) : ¬ Fr1 H a := by
  intro z
  cases d with
  | lst ds =>
    obtain ⟨vs, e, r⟩ := h
    rcases z with z | ⟨ws, z⟩ <;> rw [e] at z <;> cases z
  | dct t kvs => rcases h with ⟨t0, ps, e, k, r⟩ | ⟨t0, ps, e, k, r⟩ <;> rcases z with z | ⟨ws, z⟩ <;> rw [e] at z <;> cases z
  | _ => exact h.elim
/-- behind a step: H to H', the part G to G' -/
structure Ext (H G H' G' : Hp) : Prop where
  hh : Sub H H'
  gg : Sub G G'
  gh : Sub G' H'
  new : ∀ b, G' b ≠ none → G b ≠ none ∨ Fr1 H b
theorem Ext.refl {H G : Hp} (g : Sub G H) : Ext H G H G := ⟨Sub.refl H, Sub.refl G, g, fun _ h => .inl h⟩
theorem Ext.trans {H G H1 G1 H2 G2 : Hp} (a : Ext H G H1 G1) (b : Ext H1 G1 H2 G2) : Ext H G H2 G2 :=
  ⟨a.hh.trans b.hh, a.gg.trans b.gg, b.gh, fun c h => by
    rcases b.new c h with z | z
    · exact a.new c z
    · exact .inr (z.back a.hh)⟩
/-- a new object that all may know -/
theorem Ext.laid {H G : Hp} {p : Addr} {o : HO} (g : Sub G H) (n : H p = none) : Ext H G (upd H p o) (upd G p o) :=
  ⟨Sub.upd n, Sub.upd (g.free n), fun b u e => by
    by_cases hb : b = p
    · subst hb; rw [upd_same] at e ⊢; exact e
    · rw [upd_ne hb] at e ⊢; exact g _ _ e, fun b h => by
    by_cases hb : b = p
    · subst hb; exact .inr (.inl n)
    · rw [upd_ne hb] at h; exact .inl h⟩

/-! ### exceptions -/
/-- which class value a class's name has; its fields' values -/
structure ExcKit where
  mg : Str → Option Value
def IsExc (K : PySem.W.Frag) (mg : Str → Option Value) (c : String) (fs : List (D × D)) (cls : Value) (o : Option Addr) (H₀ H : Hp) : Prop :=
  mg (Str.ofString c) = some cls ∧ match o with
    | none => fs = []
    | some d => fs ≠ [] ∧ H₀ d = none ∧ ∃ ps, H d = some (.xd ps) ∧ fs.map (·.1) = ps.map (fun p => D.str p.1) ∧ RepV K H fs (ps.map (·.2))

theorem IsExc.back {K : PySem.W.Frag} {mg : Str → Option Value} {c : String} {fs : List (D × D)} {cls : Value} {o : Option Addr} {A B H : Hp} (s : Sub A B) (h : IsExc K mg c fs cls o B H) : IsExc K mg c fs cls o A H := by
  refine ⟨h.1, ?_⟩
  cases o with
  | none => exact h.2
  | some d => exact ⟨h.2.1, s.free h.2.2.1, h.2.2.2⟩

/-! ### names -/
abbrev Sl := Option (D × Bool)
abbrev Env := List Sl
/-- the names' values, as a reckoning sees them: those at A may be kept -/
structure EnvG (K : PySem.W.Frag) (A : Nat → Prop) (σ : L2.St) (e : Env) (H G : Hp) : Prop where
  sub : Sub G H
  len : σ.length = e.length
  val : ∀ i d o, e[i]? = some (some (d, o)) → ∃ v, σ[i]? = some (some v) ∧ (A i ∨ o = false → Rep K G d v) ∧ RepC K H G d v
theorem EnvG.ext {K : PySem.W.Frag} {A : Nat → Prop} {σ : L2.St} {e : Env} {H G H' G' : Hp} (h : EnvG K A σ e H G) (x : Ext H G H' G') : EnvG K A σ e H' G' :=
  ⟨x.gh, h.len, fun i d o hi => let ⟨v, h1, h2, h3⟩ := h.val i d o hi; ⟨v, h1, fun z => (h2 z).mono x.gg, h3.mono x.hh x.gg⟩⟩

/-- what is wanted behind a reckoning -/
def PostG (K : PySem.W.Frag) (mg : Str → Option Value) (W : Value → Option Addr → Hp → Prop) (H G : Hp) {α : Type} (r : Res α) (R : α → Hp → Hp → Prop) : Prop := match r with
  | .ok a => ∀ H' G', Ext H G H' G' → R a H' G'
  | .exc c fs => ∀ cls o H', Sub H H' → IsExc K mg c fs cls o H H' → W cls o H'
  | .bad => False
section
variable {K : PySem.W.Frag} {mg : Str → Option Value} {W : Value → Option Addr → Hp → Prop} {H G H' G' : Hp} {α β : Type}
theorem PostG.ext {r : Res α} {R : α → Hp → Hp → Prop} (h : PostG K mg W H G r R) (x : Ext H G H' G') : PostG K mg W H' G' r R := by
  cases r with
  | ok a => exact fun H2 G2 y => h H2 G2 (x.trans y)
  | exc c fs => exact fun cls o H2 y z => h cls o H2 (x.hh.trans y) (z.back x.hh)
  | bad => exact h
theorem PostG.imp {r : Res α} {R R' : α → Hp → Hp → Prop} (h : PostG K mg W H G r R) (f : ∀ a H' G', Ext H G H' G' → R a H' G' → R' a H' G') : PostG K mg W H G r R' := by
  cases r with
  | ok a => exact fun H2 G2 y => f a H2 G2 y (h H2 G2 y)
  | exc c fs => exact h
  | bad => exact h
theorem PostG.split {r : Res α} {f : α → Res β} {R : β → Hp → Hp → Prop} (h : PostG K mg W H G (r.bind f) R) : PostG K mg W H G r fun a H1 G1 => PostG K mg W H1 G1 (f a) R := by
  cases r with
  | ok a => exact fun H2 G2 y => PostG.ext (r := f a) h y
  | exc c fs => exact h
  | bad => exact h
theorem PostG.val {d : D} {Q : VK} (h : PostG K mg W H G (Res.ok d) fun d H' G' => ∀ v, Rep K G' d v → Q v H') (g : Sub G H) {v : V} (r : Rep K G d v) : Q v H := h H G (Ext.refl g) v r
theorem PostG.here {a : α} {R : α → Hp → Hp → Prop} (h : PostG K mg W H G (.ok a) R) (g : Sub G H) : R a H G := h H G (Ext.refl g)
end

theorem _root_.L2.PE.imp {X : Cx} {e : Expr} {t t' : TE} (h : PE X e t) (f : ∀ σ H Q, t' σ H Q → t σ H Q) : PE X e t' := ⟨fun pins s σ H Q I q => h.run pins s σ H Q I (f σ H Q q)⟩
theorem _root_.L2.PA.imp {X : Cx} {e : List Expr} {t t' : TA} (h : PA X e t) (f : ∀ σ H Q, t' σ H Q → t σ H Q) : PA X e t' := ⟨fun pos pins s σ H Q I q => h.run pos pins s σ H Q I (f σ H Q q)⟩
theorem _root_.L2.PT.imp {X : Cx} {e : Expr} {t t' : TT} (h : PT X e t) (f : ∀ σ H Q, t' σ H Q → t σ H Q) : PT X e t' := ⟨fun pins s σ H Q I q => h.run pins s σ H Q I (f σ H Q q)⟩
theorem _root_.L2.PW.imp {X : Cx} {e : Expr} {t t' : TT} (h : PW X e t) (f : ∀ σ H Q, t' σ H Q → t σ H Q) : PW X e t' := ⟨fun wh pins s σ H Q I q => h.run wh pins s σ H Q I (f σ H Q q)⟩
theorem _root_.L2.PS.imp {X : Cx} {e : Stmt} {t t' : TS} (h : PS X e t) (f : ∀ D σ H, t' D σ H → t D σ H) : PS X e t' := ⟨fun pins s σ H D I q => h.run pins s σ H D I (f D σ H q)⟩
theorem _root_.L2.PSs.imp {X : Cx} {e : List Stmt} {t t' : TS} (h : PSs X e t) (f : ∀ D σ H, t' D σ H → t D σ H) : PSs X e t' := ⟨fun pins s σ H D I q => h.run pins s σ H D I (f D σ H q)⟩
theorem _root_.L2.PI.imp {X : Cx} {tg e : Expr} {t t' : TI} (h : PI X tg e t) (f : ∀ σ H Q, t' σ H Q → t σ H Q) : PI X tg e t' := ⟨fun pins s σ H Q I q => h.run pins s σ H Q I (f σ H Q q)⟩

/-! ### the readings -/
section
variable (K : PySem.W.Frag) (mg : Str → Option Value) (W : WX) (A : Nat → Prop)
/-- a reckoning's value, kept by whoever has it -/
def tD (f : Env → Res D) : TE := fun σ H Q => ∃ e G, EnvG K A σ e H G ∧ PostG K mg (fun c o H' => W c o σ H') H G (f e) fun d H' G' => ∀ v, Rep K G' d v → Q v H'
/-- .. read alone -/
def tR (f : Env → Res D) : TE := fun σ H Q => ∃ e G, EnvG K A σ e H G ∧ PostG K mg (fun c o H' => W c o σ H') H G (f e) fun d H' G' => ∀ v, RepC K H' G' d v → Q v H'
/-- .. new, and of none else -/
def tF (f : Env → Res D) : TE := fun σ H Q => ∃ e G, EnvG K A σ e H G ∧ PostG K mg (fun c o H' => W c o σ H') H G (f e) fun d H' G' => ∀ a, H a = none → G' a = none → OwnC K H' G' d a → Q (.ref a) H'
def tDs (f : Env → Res (List D)) : TA := fun σ H Q => ∃ e G, EnvG K A σ e H G ∧ PostG K mg (fun c o H' => W c o σ H') H G (f e) fun ds H' G' => ∀ vs, RepL K G' ds vs → Q vs H'
def tT (f : Env → Res Bool) : TT := fun σ H Q => ∃ e G, EnvG K A σ e H G ∧ PostG K mg (fun c o H' => W c o σ H') H G (f e) fun b H' G' => Q b H'
end
section
variable {X : Cx} {W : WX} {A : Nat → Prop}
abbrev DE (X : Cx) (W : WX) (A : Nat → Prop) (ex : Expr) (f : Env → Res D) : Prop := PE X ex (tD X.K X.mg W A f)
abbrev DR (X : Cx) (W : WX) (A : Nat → Prop) (ex : Expr) (f : Env → Res D) : Prop := PE X ex (tR X.K X.mg W A f)
abbrev DF (X : Cx) (W : WX) (A : Nat → Prop) (ex : Expr) (f : Env → Res D) : Prop := PE X ex (tF X.K X.mg W A f)
abbrev DA (X : Cx) (W : WX) (A : Nat → Prop) (es : List Expr) (f : Env → Res (List D)) : Prop := PA X es (tDs X.K X.mg W A f)
abbrev DT (X : Cx) (W : WX) (A : Nat → Prop) (ex : Expr) (f : Env → Res Bool) : Prop := PT X ex (tT X.K X.mg W A f)
abbrev DW (X : Cx) (W : WX) (A : Nat → Prop) (ex : Expr) (f : Env → Res Bool) : Prop := PW X ex (tT X.K X.mg W A f)
/-- kept, so read -/
theorem dr {ex : Expr} {f : Env → Res D} (h : DE X W A ex f) : DR X W A ex f :=
  h.imp fun σ H Q ⟨e, G, E, p⟩ => ⟨e, G, E, p.imp fun d H' G' x q v r => q v (r.c x.gh)⟩
/-- new, so locked and all men's -/
theorem own_lock {K : PySem.W.Frag} {H G H' G' : Hp} {d : D} {a : Addr} (x : Ext H G H' G') (ha : H a = none) (ga : G' a = none) (rc : OwnC K H' G' d a) : LockT (fun H2 => ∃ G2, Ext H G H2 G2 ∧ Rep K G2 d (.ref a)) H' := by
  cases hd : d.isDct with
  | false =>
    have sg : Sub G' (fun b => if b = a then H' b else G' b) := fun b o q => by
      show (if b = a then H' b else G' b) = some o
      by_cases hb : b = a
      · subst hb; rw [ga] at q; cases q
      · rw [if_neg hb]; exact q
    have gaa : (fun b => if b = a then H' b else G' b : Hp) a = H' a := if_pos rfl
    refine .here ⟨fun b => if b = a then H' b else G' b, ⟨x.hh, x.gg.trans sg, fun b o q => ?_, fun b q => ?_⟩, rc.put hd sg gaa⟩
    · have q' : (if b = a then H' b else G' b) = some o := q
      by_cases hb : b = a
      · rw [if_pos hb] at q'; exact q'
      · rw [if_neg hb] at q'; exact x.gh _ _ q'
    · have q' : (if b = a then H' b else G' b) ≠ none := q
      by_cases hb : b = a
      · subst hb; exact .inr (.inl ha)
      · rw [if_neg hb] at q'; exact x.new b q'
  | true =>
    have sg : ∀ od u, Sub G' (upd G' a (.frz od u)) := fun od u => Sub.upd ga
    obtain ⟨u, hu, mu, _⟩ := rc.lock hd (Sub.refl G')
    refine .lock hu mu fun od => .here ⟨upd G' a (.frz od u), ⟨fun b o q => ?_, x.gg.trans (sg od u), fun b o q => ?_, fun b q => ?_⟩, ?_⟩
    · have nb : b ≠ a := fun z => by rw [z, ha] at q; cases q
      rw [upd_ne nb]; exact x.hh b o q
    · by_cases hb : b = a
      · subst hb; rw [upd_same] at q ⊢; exact q
      · rw [upd_ne hb] at q ⊢; exact x.gh b o q
    · by_cases hb : b = a
      · subst hb; exact .inr (.inl ha)
      · rw [upd_ne hb] at q; exact x.new b q
    · obtain ⟨u', hu', _, k⟩ := rc.lock hd (sg od u)
      rw [hu] at hu'; cases hu'
      exact k od upd_same
/-- new, so kept -/
theorem de_of {ex : Expr} {f : Env → Res D} (h : DF X W A ex f) : DE X W A ex f :=
  h.lkP fun σ H Q ⟨e, G, E, p⟩ => ⟨e, G, E, by
    cases hr : f e with
    | exc c fs => rw [hr] at p; exact p
    | bad => rw [hr] at p; exact p
    | ok d =>
      rw [hr] at p
      intro H' G' x a ha ga rc
      exact (own_lock x ha ga rc).imp fun H2 ⟨G2, y, r⟩ => p H2 G2 y (.ref a) r⟩

/-! ### names, constants -/
def eVar (i : Nat) : Env → Res D := fun e => match e[i]? with
  | some (some (d, _)) => .ok d
  | _ => .bad
def eC (d : D) : Env → Res D := fun _ => .ok d
theorem de_var {i : Nat} {x : Str} {pos : Pos} (hN : X.N[i]? = some x) (hv : Vis X.env.scope x) (hA : A i) (hd : (x == ("__debug__" : Str)) = false := by decide) (hcd : (x == ("__classdict__" : Str)) = false := by decide) : DE X W A (.Name x pos) (eVar i) :=
  (pe_var hN hv hd hcd).imp fun σ H Q ⟨e, G, E, p⟩ => by
    unfold eVar at p
    cases h : e[i]? with
    | none => rw [h] at p; exact p.elim
    | some s => cases s with
      | none => rw [h] at p; exact p.elim
      | some z =>
        obtain ⟨d, o⟩ := z
        rw [h] at p
        obtain ⟨v, h1, h2, h3⟩ := E.val i d o h
        exact ⟨v, h1, p.here E.sub v (h2 (.inl hA))⟩
/-- a name that is read alone -/
theorem dr_var {i : Nat} {x : Str} {pos : Pos} (hN : X.N[i]? = some x) (hv : Vis X.env.scope x) (hd : (x == ("__debug__" : Str)) = false := by decide) (hcd : (x == ("__classdict__" : Str)) = false := by decide) : DR X W A (.Name x pos) (eVar i) :=
  (pe_var hN hv hd hcd).imp fun σ H Q ⟨e, G, E, p⟩ => by
    unfold eVar at p
    cases h : e[i]? with
    | none => rw [h] at p; exact p.elim
    | some s => cases s with
      | none => rw [h] at p; exact p.elim
      | some z =>
        obtain ⟨d, o⟩ := z
        rw [h] at p
        obtain ⟨v, h1, h2, h3⟩ := E.val i d o h
        exact ⟨v, h1, p.here E.sub v h3⟩
theorem de_const {ex : Expr} {v : V} {d : D} (h : PE X ex (tC v)) (r : ∀ G, Rep X.K G d v) : DE X W A ex (eC d) :=
  h.imp fun σ H Q ⟨e, G, E, p⟩ => p.here E.sub v (r G)
theorem de_int {i j pos} : DE X W A (.Constant (.int i) j pos) (eC (.int i)) := de_const pe_int fun _ => rfl
theorem de_bl {b j pos} : DE X W A (.Constant (.bool b) j pos) (eC (.bl b)) := de_const pe_bl fun _ => rfl
theorem de_non {j pos} : DE X W A (.Constant .none j pos) (eC .non) := de_const pe_non fun _ => rfl
theorem de_str {x j pos} : DE X W A (.Constant (.str x) j pos) (eC (.str x)) := de_const pe_str fun _ => rfl
/-- a module's constant -/
theorem de_glob {x : Str} {v : V} {u : Value} {d : D} {pos : Pos} (hg : Gl X x) (hm : X.mg x = some u) (r : RelV v u) (q : ∀ G, Rep X.K G d v) (hd : (x == ("__debug__" : Str)) = false := by decide) : DE X W A (.Name x pos) (eC d) :=
  de_const (pe_glob hg hm r hd) q

/-! ### operators on two values -/
def eOp (g : D → D → Res D) (fa fb : Env → Res D) : Env → Res D := fun e => (fa e).bind fun x => (fb e).bind fun y => g x y
/-- the operation f does on data what g says -/
def OpD (X : Cx) (W : WX) (f : Value → Value → Sem Value) (g : D → D → Res D) : Prop :=
  ∃ r, OpR X f r ∧ ∀ (σ : L2.St) (H G : Hp) (x y : V) (dx dy : D) (Q : VK), Sub G H → RepC X.K H G dx x → RepC X.K H G dy y →
    PostG X.K X.mg (fun c o H' => W c o σ H') H G (g dx dy) (fun d H' G' => ∀ v, Rep X.K G' d v → Q v H') → r x y H Q
theorem op_two {r : R2} {g : D → D → Res D} {fa fb : Env → Res D} {ta tb : TE} (hta : ta = tR X.K X.mg W A fa) (htb : tb = tR X.K X.mg W A fb)
    (h : ∀ (σ : L2.St) (H G : Hp) (x y : V) (dx dy : D) (Q : VK), Sub G H → RepC X.K H G dx x → RepC X.K H G dy y →
      PostG X.K X.mg (fun c o H' => W c o σ H') H G (g dx dy) (fun d H' G' => ∀ v, Rep X.K G' d v → Q v H') → r x y H Q) (σ : L2.St) (H : Hp) (Q : VK) (q : tD X.K X.mg W A (eOp g fa fb) σ H Q) : tOp r ta tb σ H Q := by
  subst hta htb
  obtain ⟨e, G, E, p⟩ := q
  refine ⟨e, G, E, p.split.imp fun dx H1 G1 x1 p1 v rv => ?_⟩
  refine ⟨e, G1, E.ext x1, p1.split.imp fun dy H2 G2 x2 p2 u ru => ?_⟩
  exact h σ H2 G2 v u dx dy Q x2.gh (rv.mono x2.hh x2.gg) ru p2
theorem de_bin {op : Operator} {a b : Expr} {fa fb : Env → Res D} {g : D → D → Res D} {pos : Pos} (ho : OpD X W (binaryOp op) g) (ha : DR X W A a fa) (hb : DR X W A b fb) : DE X W A (.BinOp a op b pos) (eOp g fa fb) := by
  obtain ⟨r, h1, h2⟩ := ho
  exact (pe_op h1 ha hb).imp (op_two rfl rfl h2)
theorem de_cmp {op : CmpOp} {a b : Expr} {fa fb : Env → Res D} {g : D → D → Res D} {pos : Pos} (ho : OpD X W (compareOp op) g) (ha : DR X W A a fa) (hb : DR X W A b fb) (hm : behindInMarks op b = false) : DE X W A (.Compare a [op] [b] pos) (eOp g fa fb) := by
  obtain ⟨r, h1, h2⟩ := ho
  exact (pe_cmpR h1 ha hb hm).imp (op_two rfl rfl h2)
end
end DL

namespace DL
open PySem PySem.Spec PyProof.Rows L2
open PySem.Builtin.Int (intBits)

/-! ### whole numbers -/
def big : Nat := 130000000
theorem mul_ok {i j : Int} (h : intBits i + intBits j ≤ big) : IntMulOk i j := by
  have e : bitsLine = 134217728 := by decide
  unfold IntMulOk
  intro z
  rw [Bool.and_eq_true] at z
  have z2 := z.2
  unfold Builtin.Int.intTooBig at z2
  have z3 := of_decide_eq_true z2
  rw [e] at z3
  have hb : big = 130000000 := rfl
  omega
section
variable {X : Cx} {W : WX}
/-- a rule for two values, where it is told of data -/
theorem OpD.or {f : Value → Value → Sem Value} {g1 g2 : D → D → Res D} (c : D → D → Bool) (h1 : OpD X W f g1) (h2 : OpD X W f g2) : OpD X W f fun x y => if c x y = true then g1 x y else g2 x y := by
  obtain ⟨r1, o1, q1⟩ := h1
  obtain ⟨r2, o2, q2⟩ := h2
  refine ⟨_, OpR.or o1 o2, fun σ H G x y dx dy Q sg rx ry p => ?_⟩
  dsimp only at p
  by_cases hc : c dx dy = true
  · rw [if_pos hc] at p; exact .inl (q1 σ H G x y dx dy Q sg rx ry p)
  · rw [if_neg hc] at p; exact .inr (q2 σ H G x y dx dy Q sg rx ry p)
theorem OpD.congr {f : Value → Value → Sem Value} {g1 g2 : D → D → Res D} (h : OpD X W f g1) (e : ∀ x y, g2 x y = .bad ∨ g2 x y = g1 x y) : OpD X W f g2 := by
  obtain ⟨r, o, q⟩ := h
  refine ⟨r, o, fun σ H G x y dx dy Q sg rx ry p => ?_⟩
  rcases e dx dy with z | z
  · rw [z] at p; exact p.elim
  · rw [z] at p; exact q σ H G x y dx dy Q sg rx ry p

/-- ints in, an int out -/
def gI (C : Int → Int → Bool) (g : Int → Int → Int) : D → D → Res D
  | .int i, .int j => if C i j = true then .ok (.int (g i j)) else .bad
  | _, _ => .bad
theorem od_I {f : Value → Value → Sem Value} {C : Int → Int → Bool} {g : Int → Int → Int}
    (rule : ∀ (i j : Int) (t u : Tok) (s : Shared) (Q : Value → Shared → Prop) (E : Value → Shared → Prop), C i j = true → Q (.int (g i j) s.toks) { s with toks := s.toks + 1 } → wpAny (model X.prog X.w) X.A (f (.int i t) (.int j u)) Q E s) :
    OpD X W f (gI C g) := by
  refine ⟨rI (fun i j => C i j = true) fun i j => .int (g i j), opI rule, fun σ H G x y dx dy Q sg rx ry p => ?_⟩
  cases dx with
  | int i =>
    cases dy with
    | int j =>
      have rx' : x = .int i := rx
      have ry' : y = .int j := ry
      dsimp only [gI] at p
      by_cases hc : C i j = true
      · rw [if_pos hc] at p
        exact ⟨i, j, rx', ry', hc, p.here sg _ rfl⟩
      · rw [if_neg hc] at p
        exact p.elim
    | _ => exact (show False from p).elim
  | _ => cases dy <;> exact (show False from p).elim
def cT : Int → Int → Bool := fun _ _ => true
def cMul : Int → Int → Bool := fun i j => decide (intBits i + intBits j ≤ big)
def cDiv : Int → Int → Bool := fun _ j => decide (j ≠ 0 ∧ j.natAbs.log2 < 9000)
def cMod : Int → Int → Bool := fun _ j => decide (j ≠ 0)
def cPow : Int → Int → Bool := fun i j => decide (0 ≤ j ∧ (intBits i : Int) * j ≤ 2 ^ 27)
theorem od_subI : OpD X W (binaryOp .Sub) (gI cT fun i j => i - j) := od_I fun _ _ _ _ _ _ _ _ q => sub_int q
theorem od_mulI : OpD X W (binaryOp .Mult) (gI cMul fun i j => i * j) := od_I fun _ _ _ _ _ _ _ c q => mul_int q (mul_ok (of_decide_eq_true c))
theorem od_divI : OpD X W (binaryOp .FloorDiv) (gI cDiv fun i j => i.fdiv j) := od_I fun _ _ _ _ _ _ _ c q =>
  have c' := of_decide_eq_true c
  floordiv_int c'.1 q (.inl (PyProof.noPylong_of_log2 c'.2))
theorem od_modI : OpD X W (binaryOp .Mod) (gI cMod fun i j => i.fmod j) := od_I fun _ _ _ _ _ _ _ c q => mod_int' (of_decide_eq_true c) q
theorem od_powI : OpD X W (binaryOp .Pow) (gI cPow fun i j => i ^ j.toNat) := od_I fun _ _ _ _ _ _ _ c q =>
  have c' := of_decide_eq_true c
  pow_int c'.1 c'.2 q
/-! ### + of texts, tuples, lists -/
def dAdd : D → D → Res D
  | .int i, .int j => .ok (.int (i + j))
  | .str a, .str b => if a.length + b.length ≤ sizeLine then .ok (.str (a ++ b)) else .bad
  | .tup a, .tup b => if a.length + b.length ≤ sizeLine then .ok (.tup (a ++ b)) else .bad
  | .lst a, .lst b => if a.length + b.length ≤ sizeLine then .ok (.lst (a ++ b)) else .bad
  | _, _ => .bad
/-- a + b of lists that are read -/
def rCatR (K : PySem.W.Frag) : R2 := fun x y H Q => ∃ l b xs zs, x = .ref l ∧ y = .ref b ∧ SqL K H l xs ∧ SqL K H b zs ∧ xs.length + zs.length ≤ sizeLine ∧ ∀ p, H p = none → Q (.ref p) (upd H p (.lst (xs ++ zs)))
theorem op_catR : OpR X (binaryOp .Add) (rCatR X.K) := by
  intro pins s σ H x y v u Q I rx ry h
  obtain ⟨l, b, xs, zs, rfl, rfl, hH, hB, hz, q⟩ := h
  cases rx
  cases ry
  obtain ⟨its, r, ⟨⟨cls, dd, data, sl⟩, n, ho, hc, hdd, hd⟩, _⟩ := I.list hH
  obtain ⟨its2, r2, ⟨⟨cls2, dd2, data2, sl2⟩, n2, ho2, hc2, hdd2, hd2⟩, _⟩ := I.list hB
  simp only at hc hd hc2 hd2
  subst hc hd hc2 hd2
  have l1 := r.length
  have l2 := r2.length
  have e : its.toArray ++ its2.toArray = (its ++ its2).toArray := by simp
  refine concat_meets ⟨_, ho, rfl⟩ ⟨_, ho2, rfl⟩ noFill_list_add seq_list_add PySem.F.slot_list_add PySem.F.entry_list_add (PySem.F.args_list_add_2 _ _) (list_addW l b its.toArray its2.toArray n n2 dd dd2 sl sl2 (by simp; omega)) ⟨ho, ho2, ?_⟩
  rw [e]
  exact ⟨.ref _, _, I.lnew (t' := s.toks) (r.append r2) (by rw [List.length_append]; omega), rfl, q _ I.fresh⟩
theorem op_addS' : OpR X (binaryOp .Add) (fun x y H Q => ∃ i j, x = .str i ∧ y = .str j ∧ i.length + j.length ≤ sizeLine ∧ Q (.str (i ++ j)) H) := op_add_str
theorem od_add : OpD X W (binaryOp .Add) dAdd := by
  refine ⟨_, OpR.or op_add (OpR.or op_addS' (OpR.or op_catA op_catR)), fun σ H G x y dx dy Q sg rx ry p => ?_⟩
  cases dx with
  | int i =>
    cases dy with
    | int j => exact .inl ⟨i, j, rx, ry, PostG.val (d := .int (i + j)) p sg rfl⟩
    | _ => exact (show False from p).elim
  | str i =>
    cases dy with
    | str j =>
      dsimp only [dAdd] at p
      by_cases hc : i.length + j.length ≤ sizeLine
      · rw [if_pos hc] at p
        exact .inr (.inl ⟨i, j, rx, ry, hc, p.here sg _ rfl⟩)
      · rw [if_neg hc] at p; exact p.elim
    | _ => exact (show False from p).elim
  | tup i =>
    cases dy with
    | tup j =>
      dsimp only [dAdd] at p
      by_cases hc : i.length + j.length ≤ sizeLine
      · rw [if_pos hc] at p
        obtain ⟨a, vs, e1, s1, r1⟩ := (show Rep X.K G (.tup i) x from rx)
        obtain ⟨b, ws, e2, s2, r2⟩ := (show Rep X.K G (.tup j) y from ry)
        refine .inr (.inr (.inl ⟨a, b, vs, ws, e1, e2, sg.pt s1, sg.pt s2, by rw [r1.length, r2.length]; exact hc, fun z => ?_, fun z1 z2 => ?_, fun z1 z2 q hq => ?_⟩))
        · subst z
          refine p.here sg _ ⟨b, ws, rfl, s2, ?_⟩
          cases i with
          | nil => exact r2
          | cons d ds => obtain ⟨_, _, e, _⟩ := r1; cases e
        · subst z2
          refine p.here sg _ ⟨a, vs, rfl, s1, ?_⟩
          cases j with
          | nil => rw [List.append_nil]; exact r1
          | cons d ds => obtain ⟨_, _, e, _⟩ := r2; cases e
        · exact p _ _ (Ext.laid sg hq) _ ⟨q, _, rfl, upd_same, (r1.append r2).mono (Sub.upd (sg.free hq))⟩
      · rw [if_neg hc] at p; exact p.elim
    | _ => exact (show False from p).elim
  | lst i =>
    cases dy with
    | lst j =>
      dsimp only [dAdd] at p
      by_cases hc : i.length + j.length ≤ sizeLine
      · rw [if_pos hc] at p
        obtain ⟨a, vs, e1, s1, r1⟩ := rx
        obtain ⟨b, ws, e2, s2, r2⟩ := ry
        refine .inr (.inr (.inr ⟨a, b, vs, ws, e1, e2, s1, s2, by rw [r1.length, r2.length]; exact hc, fun q hq => ?_⟩))
        exact p _ _ (Ext.laid sg hq) _ ⟨q, _, rfl, SqL.of upd_same, (r1.append r2).mono (Sub.upd (sg.free hq))⟩
      · rw [if_neg hc] at p; exact p.elim
    | _ => exact (show False from p).elim
  | _ => exact (show False from p).elim

/-! ### * -/
def dMul : D → D → Res D
  | .int i, .int j => if intBits i + intBits j ≤ big then .ok (.int (i * j)) else .bad
  | _, _ => .bad
theorem od_mul : OpD X W (binaryOp .Mult) dMul := od_mulI.congr fun x y => by
  cases x <;> cases y <;> first
    | exact .inl rfl
    | exact .inr (by simp [dMul, gI, cMul])
def dSub : D → D → Res D
  | .int i, .int j => .ok (.int (i - j))
  | _, _ => .bad
theorem od_sub : OpD X W (binaryOp .Sub) dSub := od_subI.congr fun x y => by
  cases x <;> cases y <;> first
    | exact .inl rfl
    | exact .inr (by simp [dSub, gI, cT])
def dDiv : D → D → Res D
  | .int i, .int j => if j ≠ 0 ∧ j.natAbs.log2 < 9000 then .ok (.int (i.fdiv j)) else .bad
  | _, _ => .bad
theorem od_div : OpD X W (binaryOp .FloorDiv) dDiv := od_divI.congr fun x y => by
  cases x <;> cases y <;> first
    | exact .inl rfl
    | exact .inr (by simp [dDiv, gI, cDiv])
def dMod : D → D → Res D
  | .int i, .int j => if j ≠ 0 then .ok (.int (i.fmod j)) else .bad
  | _, _ => .bad
theorem od_mod : OpD X W (binaryOp .Mod) dMod := od_modI.congr fun x y => by
  cases x <;> cases y <;> first
    | exact .inl rfl
    | exact .inr (by simp [dMod, gI, cMod])
def dPow : D → D → Res D
  | .int i, .int j => if 0 ≤ j ∧ (intBits i : Int) * j ≤ 2 ^ 27 then .ok (.int (i ^ j.toNat)) else .bad
  | _, _ => .bad
theorem od_pow : OpD X W (binaryOp .Pow) dPow := od_powI.congr fun x y => by
  cases x <;> cases y <;> first
    | exact .inl rfl
    | exact .inr (by simp [dPow, gI, cPow])

end

/-! ### == of data -/
mutual
def D.py : D → PyData
  | .non => .none
  | .bl b => .bool b
  | .int i => .int i
  | .str x => .str x
  | .obj _ => .none
  | .err _ _ => .none
  | .exn _ _ _ => .none
  | .tup xs => .tuple (D.pys xs)
  | .lst xs => .list (D.pys xs)
  | .dct _ _ => .none
  | .con xs => .tuple (D.pys xs)
def D.pys : List D → List PyData
  | [] => []
  | d :: r => D.py d :: D.pys r
end
mutual
/-- without dicts and objects; texts that are texts; at most so deep -/
def D.pl : D → Nat → Bool
  | .non, _ => true
  | .bl _, _ => true
  | .int _, _ => true
  | .str x, _ => PyData.strOk x
  | .obj _, _ => false
  | .err _ _, _ => false
  | .exn _ _ _, _ => false
  | .tup xs, n => match n with
    | 0 => false
    | n + 1 => D.pls xs n
  | .lst xs, n => match n with
    | 0 => false
    | n + 1 => D.pls xs n
  | .dct _ _, _ => false
  | .con xs, n => match n with
    | 0 => false
    | n + 1 => D.pls xs n
def D.pls : List D → Nat → Bool
  | [], _ => true
  | d :: r, n => D.pl d n && D.pls r n
end
theorem pl_nd {d : D} {n : Nat} (h : d.pl n = true) : d.isDct = false := by
  cases d with
  | dct t kvs => simp [D.pl] at h
  | _ => rfl
mutual
theorem py_can : ∀ (d : D) (n : Nat), d.pl n = true → d.py.canLay0 = true ∧ d.py.depth ≤ n
  | .non, n, _ => ⟨by simp [D.py, PyData.canLay0], by simp [D.py, PyData.depth]⟩
  | .bl _, n, _ => ⟨by simp [D.py, PyData.canLay0], by simp [D.py, PyData.depth]⟩
  | .int _, n, _ => ⟨by simp [D.py, PyData.canLay0], by simp [D.py, PyData.depth]⟩
  | .str _, n, h => ⟨by simpa [D.py, PyData.canLay0, D.pl] using h, by simp [D.py, PyData.depth]⟩
  | .obj _, n, h => by simp [D.pl] at h
  | .err _ _, n, h => by simp [D.pl] at h
  | .exn _ _ _, n, h => by simp [D.pl] at h
  | .dct _ _, n, h => by simp [D.pl] at h
  | .con xs, 0, h => by simp [D.pl] at h
  | .con xs, n + 1, h => by
    have := pys_can xs n (by simpa [D.pl] using h)
    exact ⟨by simpa [D.py, PyData.canLay0] using this.1, by simp [D.py, PyData.depth]; exact this.2⟩
  | .tup xs, 0, h => by simp [D.pl] at h
  | .lst xs, 0, h => by simp [D.pl] at h
  | .tup xs, n + 1, h => by
    have := pys_can xs n (by simpa [D.pl] using h)
    exact ⟨by simpa [D.py, PyData.canLay0] using this.1, by simp [D.py, PyData.depth]; exact this.2⟩
  | .lst xs, n + 1, h => by
    have := pys_can xs n (by simpa [D.pl] using h)
    exact ⟨by simpa [D.py, PyData.canLay0] using this.1, by simp [D.py, PyData.depth]; exact this.2⟩
theorem pys_can : ∀ (ds : List D) (n : Nat), D.pls ds n = true → PyData.canLayAll0 (D.pys ds) = true ∧ PyData.depthAll (D.pys ds) ≤ n
  | [], n, _ => ⟨by simp [D.pys, PyData.canLayAll0], by simp [D.pys, PyData.depthAll]⟩
  | d :: r, n, h => by
    have h' : d.pl n = true ∧ D.pls r n = true := by simpa [D.pls] using h
    have a := py_can d n h'.1
    have b := pys_can r n h'.2
    exact ⟨by simp [D.pys, PyData.canLayAll0, a.1, b.1], by simp only [D.pys, PyData.depthAll]; omega⟩
end
mutual
theorem Rep.dp {K : PySem.W.Frag} {H : Hp} : ∀ (d : D) (n : Nat) (v : V), d.pl n = true → Rep K H d v → Dp K H v d.py
  | .non, n, v, _, r => by rw [show v = .non from r]; exact .non
  | .bl b, n, v, _, r => by rw [show v = .bl b from r]; exact .bl b
  | .int i, n, v, _, r => by rw [show v = .int i from r]; exact .int i
  | .str x, n, v, _, r => by rw [show v = .str x from r]; exact .str x
  | .obj _, n, v, h, r => by simp [D.pl] at h
  | .err _ _, n, v, h, r => by simp [D.pl] at h
  | .exn _ _ _, n, v, h, r => by simp [D.pl] at h
  | .dct _ _, n, v, h, r => by simp [D.pl] at h
  | .con xs, 0, v, h, r => by simp [D.pl] at h
  | .con xs, n + 1, v, h, r => by
    obtain ⟨a, vs, e, s, q⟩ := r
    subst e
    exact .tup s.sqt (RepL.dp xs n vs (by simpa [D.pl] using h) q)
  | .tup xs, 0, v, h, r => by simp [D.pl] at h
  | .lst xs, 0, v, h, r => by simp [D.pl] at h
  | .tup xs, n + 1, v, h, r => by
    obtain ⟨a, vs, e, s, q⟩ := r
    subst e
    exact .tup (SqT.of s) (RepL.dp xs n vs (by simpa [D.pl] using h) q)
  | .lst xs, n + 1, v, h, r => by
    obtain ⟨a, vs, e, s, q⟩ := r
    subst e
    exact .lst s (RepL.dp xs n vs (by simpa [D.pl] using h) q)
theorem RepL.dp {K : PySem.W.Frag} {H : Hp} : ∀ (ds : List D) (n : Nat) (vs : List V), D.pls ds n = true → RepL K H ds vs → DpAll K H vs (D.pys ds)
  | [], n, vs, _, r => by rw [show vs = [] from r]; exact .nil
  | d :: ds, n, vs, h, r => by
    obtain ⟨v, t, e, a, b⟩ := r
    subst e
    have h' : d.pl n = true ∧ D.pls ds n = true := by simpa [D.pls] using h
    exact .cons (Rep.dp d n v h'.1 a) (RepL.dp ds n t h'.2 b)
end
theorem shaped_py {d : D} {n : Nat} (h : d.pl n = true) (hn : n ≤ 64) : SeqAt.shaped d.py = true := by
  have := py_can d n h
  unfold SeqAt.shaped
  rw [this.1, decide_eq_true (by omega : d.py.depth ≤ 64)]
  rfl
def D.beq (x y : D) : Bool := PyData.eqv x.py y.py
def dEq : D → D → Res D
  | .str a, .str b => .ok (.bl (decide (a = b)))
  | x, y => if x.pl 60 = true ∧ y.pl 60 = true then .ok (.bl (D.beq x y)) else .bad
def dNe : D → D → Res D
  | .str a, .str b => .ok (.bl (!decide (a = b)))
  | x, y => if x.pl 60 = true ∧ y.pl 60 = true then .ok (.bl (!D.beq x y)) else .bad
section
variable {X : Cx} {W : WX}
theorem od_eq (hu : X.A.units + 64 < cLine) : OpD X W (compareOp .Eq) dEq := by
  refine ⟨_, OpR.or op_eq (op_eqD hu), fun σ H G x y dx dy Q sg rx ry p => ?_⟩
  have gen : PostG X.K X.mg (fun c o H' => W c o σ H') H G (if dx.pl 60 = true ∧ dy.pl 60 = true then .ok (.bl (D.beq dx dy)) else .bad) (fun d H' G' => ∀ v, Rep X.K G' d v → Q v H') → rEq x y H Q ∨ rEqD X.K x y H Q := fun p => by
    by_cases hc : dx.pl 60 = true ∧ dy.pl 60 = true
    · rw [if_pos hc] at p
      exact .inr ⟨dx.py, dy.py, Rep.dp dx 60 x hc.1 (rx.all sg (pl_nd hc.1)), Rep.dp dy 60 y hc.2 (ry.all sg (pl_nd hc.2)), shaped_py hc.1 (by decide), shaped_py hc.2 (by decide), p.here sg _ rfl⟩
    · rw [if_neg hc] at p; exact p.elim
  cases dx with
  | str a =>
    cases dy with
    | str b =>
      have rx' : x = .str a := rx
      have ry' : y = .str b := ry
      subst rx' ry'
      refine .inl ⟨rfl, ?_⟩
      have q : Q (.bl (decide (a = b))) H := PostG.val (d := .bl (decide (a = b))) p sg rfl
      have e : decide (V.str a = V.str b) = decide (a = b) := by simp
      rw [e]; exact q
    | _ => exact gen p
  | _ => exact gen p
theorem od_ne (hu : X.A.units + 64 < cLine) : OpD X W (compareOp .NotEq) dNe := by
  refine ⟨_, OpR.or op_ne (op_neD hu), fun σ H G x y dx dy Q sg rx ry p => ?_⟩
  have gen : PostG X.K X.mg (fun c o H' => W c o σ H') H G (if dx.pl 60 = true ∧ dy.pl 60 = true then .ok (.bl (!D.beq dx dy)) else .bad) (fun d H' G' => ∀ v, Rep X.K G' d v → Q v H') → rNe x y H Q ∨ rNeD X.K x y H Q := fun p => by
    by_cases hc : dx.pl 60 = true ∧ dy.pl 60 = true
    · rw [if_pos hc] at p
      exact .inr ⟨dx.py, dy.py, Rep.dp dx 60 x hc.1 (rx.all sg (pl_nd hc.1)), Rep.dp dy 60 y hc.2 (ry.all sg (pl_nd hc.2)), shaped_py hc.1 (by decide), shaped_py hc.2 (by decide), p.here sg _ rfl⟩
    · rw [if_neg hc] at p; exact p.elim
  cases dx with
  | str a =>
    cases dy with
    | str b =>
      have rx' : x = .str a := rx
      have ry' : y = .str b := ry
      subst rx' ry'
      refine .inl ⟨rfl, ?_⟩
      have q : Q (.bl (!decide (a = b))) H := PostG.val (d := .bl (!decide (a = b))) p sg rfl
      have e : decide (V.str a = V.str b) = decide (a = b) := by simp
      rw [e]; exact q
    | _ => exact gen p
  | _ => exact gen p
end
/-! ### < of data -/
/-- the two can be compared -/
def D.cmpb (x y : D) : Bool := x.pl 60 && y.pl 60 && PySem.W.alike x.py y.py && (match x with | .non => false | _ => true)
/-- x < y, of data that can be compared -/
def D.lt (x y : D) : Bool := PySem.W.dataLt x.py y.py
def cmpD (f : D → D → Bool) (x y : D) : Res D := if D.cmpb x y = true then .ok (.bl (f x y)) else .bad
def dLt : D → D → Res D
  | .int i, .int j => .ok (.bl (decide (i < j)))
  | x, y => cmpD (fun x y => D.lt x y) x y
def dLe : D → D → Res D
  | .int i, .int j => .ok (.bl (decide (i ≤ j)))
  | x, y => cmpD (fun x y => !D.lt y x) x y
def dGt : D → D → Res D
  | .int i, .int j => .ok (.bl (decide (j < i)))
  | x, y => cmpD (fun x y => D.lt y x) x y
def dGe : D → D → Res D
  | .int i, .int j => .ok (.bl (decide (j ≤ i)))
  | x, y => cmpD (fun x y => !D.lt x y) x y
def rCmpD (K : PySem.W.Frag) (f : PyData → PyData → Bool) : R2 := fun x y H Q => ∃ d e, Dp K H x d ∧ Dp K H y e ∧ SeqAt.shaped d = true ∧ SeqAt.shaped e = true ∧ PySem.W.alike d e = true ∧ d ≠ .none ∧ Q (.bl (f d e)) H
theorem shaped_depth {d : PyData} (h : SeqAt.shaped d = true) : d.depth ≤ 64 := by
  unfold SeqAt.shaped at h
  rw [Bool.and_eq_true] at h
  exact of_decide_eq_true h.2
section
variable {X : Cx} {W : WX}
theorem op_ltD (hu : X.A.units + 64 < cLine) : OpR X (compareOp .Lt) (rCmpD X.K PySem.W.dataLt) := by
  intro pins s σ H x y v u Q I rx ry h
  obtain ⟨d, e, hd, he, sd, se, al, nn, q⟩ := h
  obtain ⟨as, r1⟩ := Dp.reads I d x v hd rx
  obtain ⟨bs, r2⟩ := Dp.reads I e y u he ry
  have := shaped_depth sd
  exact PySem.W.lt_data r1 r2 al nn (by omega) ⟨.bl _, H, I, rfl, q⟩
theorem op_gtD (hu : X.A.units + 64 < cLine) : OpR X (compareOp .Gt) (rCmpD X.K fun d e => PySem.W.dataLt e d) := by
  intro pins s σ H x y v u Q I rx ry h
  obtain ⟨d, e, hd, he, sd, se, al, nn, q⟩ := h
  obtain ⟨as, r1⟩ := Dp.reads I d x v hd rx
  obtain ⟨bs, r2⟩ := Dp.reads I e y u he ry
  have := shaped_depth sd
  exact PySem.W.gt_data r1 r2 al nn (by omega) ⟨.bl _, H, I, rfl, q⟩
theorem op_leD (hu : X.A.units + 64 < cLine) : OpR X (compareOp .LtE) (rCmpD X.K fun d e => !PySem.W.dataLt e d) := by
  intro pins s σ H x y v u Q I rx ry h
  obtain ⟨d, e, hd, he, sd, se, al, nn, q⟩ := h
  obtain ⟨as, r1⟩ := Dp.reads I d x v hd rx
  obtain ⟨bs, r2⟩ := Dp.reads I e y u he ry
  have := shaped_depth sd
  exact PySem.W.le_data r1 r2 al nn (by omega) ⟨.bl _, H, I, rfl, q⟩
theorem op_geD (hu : X.A.units + 64 < cLine) : OpR X (compareOp .GtE) (rCmpD X.K fun d e => !PySem.W.dataLt d e) := by
  intro pins s σ H x y v u Q I rx ry h
  obtain ⟨d, e, hd, he, sd, se, al, nn, q⟩ := h
  obtain ⟨as, r1⟩ := Dp.reads I d x v hd rx
  obtain ⟨bs, r2⟩ := Dp.reads I e y u he ry
  have := shaped_depth sd
  exact PySem.W.ge_data r1 r2 al nn (by omega) ⟨.bl _, H, I, rfl, q⟩
theorem cmp_rep {K : PySem.W.Frag} {H G : Hp} {x y : V} {dx dy : D} (sg : Sub G H) (hc : D.cmpb dx dy = true) (rx : RepC K H G dx x) (ry : RepC K H G dy y) :
    Dp K H x dx.py ∧ Dp K H y dy.py ∧ SeqAt.shaped dx.py = true ∧ SeqAt.shaped dy.py = true ∧ PySem.W.alike dx.py dy.py = true ∧ dx.py ≠ .none := by
  unfold D.cmpb at hc
  simp only [Bool.and_eq_true] at hc
  obtain ⟨⟨⟨h1, h2⟩, h3⟩, h4⟩ := hc
  refine ⟨Rep.dp dx 60 x h1 (rx.all sg (pl_nd h1)), Rep.dp dy 60 y h2 (ry.all sg (pl_nd h2)), shaped_py h1 (by decide), shaped_py h2 (by decide), h3, ?_⟩
  cases dx with
  | non => cases h4
  | obj _ => simp [D.pl] at h1
  | err _ _ => simp [D.pl] at h1
  | exn _ _ _ => simp [D.pl] at h1
  | dct _ _ => simp [D.pl] at h1
  | _ => simp [D.py]
theorem od_cmp {op : CmpOp} {g : D → D → Res D} {gi : Int → Int → Bool} {f : D → D → Bool} {fp : PyData → PyData → Bool} (o1 : OpR X (compareOp op) (rI0 fun i j => .bl (gi i j))) (o2 : OpR X (compareOp op) (rCmpD X.K fp)) (hf : ∀ x y, f x y = fp x.py y.py)
    (hg : ∀ x y, (∃ i j, x = .int i ∧ y = .int j ∧ g x y = .ok (.bl (gi i j))) ∨ g x y = cmpD f x y) : OpD X W (compareOp op) g := by
  refine ⟨_, OpR.or o1 o2, fun σ H G x y dx dy Q sg rx ry p => ?_⟩
  rcases hg dx dy with ⟨i, j, e1, e2, e3⟩ | e
  · subst e1 e2
    rw [e3] at p
    exact .inl ⟨i, j, rx, ry, PostG.val (d := .bl (gi i j)) p sg rfl⟩
  · rw [e] at p
    unfold cmpD at p
    by_cases hc : D.cmpb dx dy = true
    · rw [if_pos hc] at p
      obtain ⟨a1, a2, a3, a4, a5, a6⟩ := cmp_rep sg hc rx ry
      refine .inr ⟨_, _, a1, a2, a3, a4, a5, a6, ?_⟩
      rw [← hf]
      exact p.here sg _ rfl
    · rw [if_neg hc] at p; exact p.elim
theorem od_lt (hu : X.A.units + 64 < cLine) : OpD X W (compareOp .Lt) dLt := od_cmp op_lt (op_ltD hu) (fun _ _ => rfl) fun x y => by
  cases x <;> cases y <;> first
    | exact .inl ⟨_, _, rfl, rfl, rfl⟩
    | exact .inr rfl
theorem od_le (hu : X.A.units + 64 < cLine) : OpD X W (compareOp .LtE) dLe := od_cmp op_le (op_leD hu) (fun _ _ => rfl) fun x y => by
  cases x <;> cases y <;> first
    | exact .inl ⟨_, _, rfl, rfl, rfl⟩
    | exact .inr rfl
theorem od_gt (hu : X.A.units + 64 < cLine) : OpD X W (compareOp .Gt) dGt := od_cmp op_gt (op_gtD hu) (fun _ _ => rfl) fun x y => by
  cases x <;> cases y <;> first
    | exact .inl ⟨_, _, rfl, rfl, rfl⟩
    | exact .inr rfl
theorem od_ge (hu : X.A.units + 64 < cLine) : OpD X W (compareOp .GtE) dGe := od_cmp op_ge (op_geD hu) (fun _ _ => rfl) fun x y => by
  cases x <;> cases y <;> first
    | exact .inl ⟨_, _, rfl, rfl, rfl⟩
    | exact .inr rfl
end
end DL

namespace DL
open PySem PySem.Spec PyProof.Rows L2
open PySem.Builtin.Int (intBits)

/-! ### tests -/
def D.asB : D → Res Bool
  | .bl b => .ok b
  | _ => .bad
/-- a value's truth -/
def D.truth : D → Res Bool
  | .non => .ok false
  | .bl b => .ok b
  | .int i => .ok (i != 0)
  | .str x => if x.length ≤ sizeLine then .ok ((x.length : Int) != 0) else .bad
  | .lst xs => .ok (!xs.isEmpty)
  | .tup xs => .ok (!xs.isEmpty)
  | _ => .bad
def bTest (g : D → D → Res D) (fa fb : Env → Res D) : Env → Res Bool := fun e => (fa e).bind fun x => (fb e).bind fun y => (g x y).bind D.asB
def bTruth (f : Env → Res D) : Env → Res Bool := fun e => (f e).bind D.truth
def bAnd (fa fb : Env → Res Bool) : Env → Res Bool := fun e => (fa e).bind fun b => if b = true then fb e else .ok false
def bOr (fa fb : Env → Res Bool) : Env → Res Bool := fun e => (fa e).bind fun b => if b = true then .ok true else fb e
def bNot (fa : Env → Res Bool) : Env → Res Bool := fun e => (fa e).bind fun b => .ok (!b)
section
variable {X : Cx} {W : WX} {A : Nat → Prop} {a b : Expr} {rest : List Expr} {pos : Pos}
theorem dt_cmp {op : CmpOp} {fa fb : Env → Res D} {g : D → D → Res D} (ho : OpD X W (compareOp op) g) (ha : DR X W A a fa) (hb : DR X W A b fb) (hm : behindInMarks op b = false) : DT X W A (.Compare a [op] [b] pos) (bTest g fa fb) := by
  obtain ⟨r, h1, h2⟩ := ho
  refine (pt_cmpR h1 ha hb hm).imp fun σ H Q ⟨e, G, E, p⟩ => ?_
  refine ⟨e, G, E, p.split.imp fun dx H1 G1 x1 p1 v rv => ⟨e, G1, E.ext x1, p1.split.imp fun dy H2 G2 x2 p2 u ru => ?_⟩⟩
  refine h2 σ H2 G2 v u dx dy _ x2.gh (rv.mono x2.hh x2.gg) ru (p2.split.imp fun d H3 G3 x3 p3 z rz => ?_)
  cases d with
  | bl k => exact ⟨k, rz, p3.here x3.gh⟩
  | _ => exact (show False from p3).elim
theorem truth_v {K : PySem.W.Frag} {H G : Hp} {d : D} {v : V} {k : Bool} (g : Sub G H) (r : RepC K H G d v) (h : d.truth = .ok k) : TruV K v H k := by
  cases d with
  | non => have : v = .non := r; subst this; cases h; rfl
  | bl b => have : v = .bl b := r; subst this; cases h; rfl
  | int i => have : v = .int i := r; subst this; cases h; rfl
  | str x =>
    have : v = .str x := r
    subst this
    dsimp only [D.truth] at h
    by_cases hc : x.length ≤ sizeLine
    · rw [if_pos hc] at h; cases h; exact ⟨hc, rfl⟩
    · rw [if_neg hc] at h; cases h
  | lst xs =>
    obtain ⟨p, vs, e, s, q⟩ := r
    subst e
    cases h
    refine .inl ⟨vs, s, ?_⟩
    have := q.length
    cases vs <;> cases xs <;> simp at this ⊢
  | tup xs =>
    obtain ⟨p, vs, e, s, q⟩ := (show Rep K G (.tup xs) v from r)
    subst e
    cases h
    refine .inr (.inl ⟨vs, g.pt s, ?_⟩)
    have := q.length
    cases vs <;> cases xs <;> simp at this ⊢
  | obj _ => cases h
  | con _ => cases h
  | dct _ _ => cases h
  | err _ _ => cases h
  | exn _ _ _ => cases h
theorem dt_truth {f : Env → Res D} (ha : DR X W A a f) (he : ∀ whole, isTrue a X.env whole = (do let v ← whole; standAt a.pos; holding [v] (truthy v))) : DT X W A a (bTruth f) :=
  (pt_truth ha he).imp fun σ H Q ⟨e, G, E, p⟩ => ⟨e, G, E, p.split.imp fun d H1 G1 x1 p1 v rv => by
    cases ht : d.truth with
    | ok k => rw [ht] at p1; exact ⟨k, truth_v x1.gh rv ht, p1.here x1.gh⟩
    | exc c fs => exact absurd ht (by cases d <;> simp [D.truth] <;> split <;> simp)
    | bad => rw [ht] at p1; exact p1.elim⟩
theorem dw_and1 {fa : Env → Res Bool} (ha : DT X W A a fa) : DW X W A (.BoolOp .And [a] pos) fa := pw_and1 ha
theorem dw_or1 {fa : Env → Res Bool} (ha : DT X W A a fa) : DW X W A (.BoolOp .Or [a] pos) fa := pw_or1 ha
theorem dw_and {fa fb : Env → Res Bool} (ha : DT X W A a fa) (hb : DW X W A (.BoolOp .And (b :: rest) pos) fb) : DW X W A (.BoolOp .And (a :: b :: rest) pos) (bAnd fa fb) :=
  (pw_and ha hb).imp fun σ H Q ⟨e, G, E, p⟩ => ⟨e, G, E, p.split.imp fun k H1 G1 x1 p1 => by
    cases k with
    | true => rw [if_pos rfl] at p1 ⊢; exact ⟨e, G1, E.ext x1, p1⟩
    | false => rw [if_neg Bool.false_ne_true] at p1 ⊢; exact p1.here x1.gh⟩
theorem dw_or {fa fb : Env → Res Bool} (ha : DT X W A a fa) (hb : DW X W A (.BoolOp .Or (b :: rest) pos) fb) : DW X W A (.BoolOp .Or (a :: b :: rest) pos) (bOr fa fb) :=
  (pw_or ha hb).imp fun σ H Q ⟨e, G, E, p⟩ => ⟨e, G, E, p.split.imp fun k H1 G1 x1 p1 => by
    cases k with
    | true => rw [if_pos rfl] at p1 ⊢; exact p1.here x1.gh
    | false => rw [if_neg Bool.false_ne_true] at p1 ⊢; exact ⟨e, G1, E.ext x1, p1⟩⟩
theorem dt_w {f : Env → Res Bool} (h : DW X W A a f) : DT X W A a f := h.pt
theorem dt_not {fa : Env → Res Bool} (ha : DT X W A a fa) : DT X W A (.UnaryOp .Not a pos) (bNot fa) :=
  (pt_not ha).imp fun σ H Q ⟨e, G, E, p⟩ => ⟨e, G, E, p.split.imp fun k H1 G1 x1 p1 => p1.here x1.gh⟩

/-! ### and, or, not, if-else as values -/
def eAnd (fa fb : Env → Res D) : Env → Res D := fun e => (fa e).bind fun x => (D.asB x).bind fun b => if b = true then fb e else .ok (.bl false)
def eOr (fa fb : Env → Res D) : Env → Res D := fun e => (fa e).bind fun x => (D.asB x).bind fun b => if b = true then .ok (.bl true) else fb e
def eNot (fa : Env → Res D) : Env → Res D := fun e => (fa e).bind fun x => (D.asB x).bind fun b => .ok (.bl (!b))
def eNeg (fa : Env → Res D) : Env → Res D := fun e => (fa e).bind fun x => match x with
  | .int i => .ok (.int (-i))
  | _ => .bad
def eIf (ft : Env → Res Bool) (fa fb : Env → Res D) : Env → Res D := fun e => (ft e).bind fun b => if b = true then fa e else fb e
theorem asB_of {K : PySem.W.Frag} {mg : Str → Option Value} {W : Value → Option Addr → Hp → Prop} {H G : Hp} {d : D} {α : Type} {f : Bool → Res α} {R : α → Hp → Hp → Prop} (p : PostG K mg W H G ((D.asB d).bind f) R) : ∃ b, d = .bl b ∧ PostG K mg W H G (f b) R := by
  cases d with
  | bl b => exact ⟨b, rfl, p⟩
  | _ => exact (show False from p).elim
theorem de_one {op} {f : Env → Res D} (h : DE X W A a f) : DE X W A (.BoolOp op [a] pos) f := pe_one h
theorem de_and {fa fb : Env → Res D} (ha : DE X W A a fa) (hb : DE X W A (.BoolOp .And (b :: rest) pos) fb) : DE X W A (.BoolOp .And (a :: b :: rest) pos) (eAnd fa fb) :=
  (pe_and ha hb).imp fun σ H Q ⟨e, G, E, p⟩ => ⟨e, G, E, p.split.imp fun x H1 G1 x1 p1 v rv => by
    obtain ⟨k, rfl, p2⟩ := asB_of p1
    refine ⟨k, rv, ?_⟩
    cases k with
    | true => rw [if_pos rfl] at p2 ⊢; exact ⟨e, G1, E.ext x1, p2⟩
    | false => rw [if_neg Bool.false_ne_true] at p2 ⊢; exact p2.val x1.gh rfl⟩
theorem de_neg {fa : Env → Res D} (ha : DE X W A a fa) : DE X W A (.UnaryOp .USub a pos) (eNeg fa) :=
  (pe_un un_neg ha).imp fun σ H Q ⟨e, G, E, p⟩ => ⟨e, G, E, p.split.imp fun x H1 G1 x1 p1 v rv => by
    cases x with
    | int i => exact ⟨i, rv, PostG.val (d := .int (-i)) p1 x1.gh rfl⟩
    | _ => exact (show False from p1).elim⟩
def bVal (f : Env → Res D) : Env → Res Bool := fun e => (f e).bind D.asB
/-! ### argument lists, displays -/
def aNil : Env → Res (List D) := fun _ => .ok []
def aCons (f : Env → Res D) (fs : Env → Res (List D)) : Env → Res (List D) := fun e => (f e).bind fun d => (fs e).bind fun ds => .ok (d :: ds)
theorem da_nil : DA X W A [] aNil := pa_nil.imp fun σ H Q ⟨e, G, E, p⟩ => p.here E.sub [] rfl
theorem da_cons {es : List Expr} {f : Env → Res D} {fs : Env → Res (List D)} (ha : DE X W A a f) (hr : DA X W A es fs) (hs : starEach (a :: es) X.env = (false, eval a X.env) :: starEach es X.env := by rfl) : DA X W A (a :: es) (aCons f fs) :=
  (pa_cons ha hr hs).imp fun σ H Q ⟨e, G, E, p⟩ => ⟨e, G, E, p.split.imp fun d H1 G1 x1 p1 v rv => ⟨e, G1, E.ext x1, p1.split.imp fun ds H2 G2 x2 p2 vs rs => p2.here x2.gh (v :: vs) (.cons (rv.mono x2.gg) rs)⟩⟩
def eTup (fs : Env → Res (List D)) : Env → Res D := fun e => (fs e).bind fun ds => .ok (.tup ds)
def eLst (fs : Env → Res (List D)) : Env → Res D := fun e => (fs e).bind fun ds => .ok (.lst ds)
/-- how long such a list is -/
def LenIs (fs : Env → Res (List D)) (n : Nat) : Prop := ∀ e ds, fs e = .ok ds → ds.length ≤ n
theorem len_nil : LenIs aNil 0 := fun e ds h => by cases h; exact Nat.le_refl _
theorem len_cons {f : Env → Res D} {fs : Env → Res (List D)} {n : Nat} (h : LenIs fs n) : LenIs (aCons f fs) (n + 1) := fun e ds q => by
  unfold aCons at q
  cases hf : f e with
  | ok d =>
    rw [hf] at q
    cases hs : fs e with
    | ok es => rw [hs] at q; cases q; exact Nat.succ_le_succ (h e es hs)
    | exc c x => rw [hs] at q; cases q
    | bad => rw [hs] at q; cases q
  | exc c x => rw [hf] at q; cases q
  | bad => rw [hf] at q; cases q
theorem PostG.ifok {K : PySem.W.Frag} {mg : Str → Option Value} {W : Value → Option Addr → Hp → Prop} {H G : Hp} {α : Type} {r : Res α} {R R' : α → Hp → Hp → Prop} (h : PostG K mg W H G r R) (f : ∀ a H' G', r = .ok a → Ext H G H' G' → R a H' G' → R' a H' G') : PostG K mg W H G r R' := by
  cases r with
  | ok a => exact fun H2 G2 y => f a H2 G2 rfl y (h H2 G2 y)
  | exc c fs => exact h
  | bad => exact h
theorem df_lst {es : List Expr} {fs : Env → Res (List D)} {n : Nat} (h : DA X W A es fs) (hl : LenIs fs n) (hn : n ≤ sizeLine) : DF X W A (.List es pos) (eLst fs) :=
  (pe_lst h).imp fun σ H Q ⟨e, G, E, p⟩ => ⟨e, G, E, p.split.ifok fun ds H1 G1 hk x1 p1 vs rs => ⟨by rw [rs.length]; exact Nat.le_trans (hl e ds hk) hn, fun q hq =>
    p1 (upd H1 q (.lst vs)) G1 ⟨Sub.upd hq, Sub.refl _, x1.gh.trans (Sub.upd hq), fun b z => .inl z⟩ q (x1.hh.free hq) (x1.gh.free hq) ⟨vs, upd_same, rs⟩⟩⟩

/-! ### subscripts -/
def dIx : D → D → Res D
  | .con xs, .int i => match atI xs i with
    | some d => .ok d
    | none => .bad
  | .tup xs, .int i => match atI xs i with
    | some d => .ok d
    | none => .bad
  | .lst xs, .int i => match atI xs i with
    | some d => .ok d
    | none => .bad
  | .str x, .int i => if x.length ≤ sizeLine then (match atI x.cps.toList i with
    | some c => .ok (.str ⟨#[c]⟩)
    | none => .bad) else .bad
  | _, _ => .bad
theorem atI_rep {K : PySem.W.Frag} {G : Hp} {ds : List D} {vs : List V} {i : Int} {d : D} (r : RepL K G ds vs) (h : atI ds i = some d) : ∃ v, atI vs i = some v ∧ Rep K G d v := by
  unfold atI at h ⊢
  rw [r.length]
  cases e : ixN ds.length i with
  | none => rw [e] at h; cases h
  | some j =>
    rw [e] at h
    have h' : ds[j]? = some d := h
    obtain ⟨v, h1, h2⟩ := r.get h'
    exact ⟨v, h1, h2⟩
theorem de_ix {fa fb : Env → Res D} (ha : DR X W A a fa) (hb : DR X W A b fb) (hs : PlainIx b) : DE X W A (.Subscript a b pos) (eOp dIx fa fb) := by
  refine (pe_ix (IxR.or ix_list (IxR.or ix_tup ix_str)) ha hb hs).imp (op_two rfl rfl fun σ H G x y dx dy Q sg rx ry p => ?_)
  cases dx with
  | tup ds =>
    cases dy with
    | int i =>
      obtain ⟨q, vs, e, s, r⟩ := (show Rep X.K G (.tup ds) x from rx)
      dsimp only [dIx] at p
      cases ha : atI ds i with
      | none => rw [ha] at p; exact p.elim
      | some d =>
        rw [ha] at p
        obtain ⟨v, h1, h2⟩ := atI_rep r ha
        exact .inr (.inl ⟨q, vs, i, v, e, ry, sg.pt s, h1, p.val sg h2⟩)
    | _ => exact (show False from p).elim
  | con ds =>
    cases dy with
    | int i =>
      obtain ⟨q, vs, e, s, r⟩ := (show Rep X.K G (.con ds) x from rx)
      dsimp only [dIx] at p
      cases ha : atI ds i with
      | none => rw [ha] at p; exact p.elim
      | some d =>
        rw [ha] at p
        obtain ⟨v, h1, h2⟩ := atI_rep r ha
        exact .inr (.inl ⟨q, vs, i, v, e, ry, sg.sqt s.sqt, h1, p.val sg h2⟩)
    | _ => exact (show False from p).elim
  | lst ds =>
    cases dy with
    | int i =>
      obtain ⟨q, vs, e, s, r⟩ := rx
      dsimp only [dIx] at p
      cases ha : atI ds i with
      | none => rw [ha] at p; exact p.elim
      | some d =>
        rw [ha] at p
        obtain ⟨v, h1, h2⟩ := atI_rep r ha
        exact .inl ⟨q, vs, i, v, e, ry, s, h1, p.val sg h2⟩
    | _ => exact (show False from p).elim
  | str z =>
    cases dy with
    | int i =>
      dsimp only [dIx] at p
      by_cases hz : z.length ≤ sizeLine
      · rw [if_pos hz] at p
        cases ha : atI z.cps.toList i with
        | none => rw [ha] at p; exact p.elim
        | some c =>
          rw [ha] at p
          exact .inr (.inr ⟨z, i, c, rx, ry, hz, ha, p.val sg rfl⟩)
      · rw [if_neg hz] at p; exact p.elim
    | _ => exact (show False from p).elim
  | _ => exact (show False from p).elim
end
end DL

namespace DL
open PySem PySem.Spec PyProof.Rows L2
open PySem.Builtin.Int (intBits)

/-! ### slices -/
def tO (K : PySem.W.Frag) (mg : Str → Option Value) (W : WX) (A : Nat → Prop) (f : Env → Res (Option Int)) : TO := fun σ H Q => ∃ e G, EnvG K A σ e H G ∧ PostG K mg (fun c o H' => W c o σ H') H G (f e) fun b H' G' => Q b H'
abbrev DO (X : Cx) (W : WX) (A : Nat → Prop) (ex : Option Expr) (f : Env → Res (Option Int)) : Prop := PO X ex (tO X.K X.mg W A f)
theorem _root_.L2.PO.imp {X : Cx} {e : Option Expr} {t t' : TO} (h : PO X e t) (f : ∀ σ H Q, t' σ H Q → t σ H Q) : PO X e t' := ⟨fun pins s σ H Q I q => h.run pins s σ H Q I (f σ H Q q)⟩
def oNone : Env → Res (Option Int) := fun _ => .ok none
def oSome (f : Env → Res D) : Env → Res (Option Int) := fun e => (f e).bind fun d => match d with
  | .int i => .ok (some i)
  | _ => .bad
def cutL {α : Type} (xs : List α) (lo hi : Option Int) : List α := (xs.drop (HT.sIx xs.length 0 lo)).take (HT.sIx xs.length xs.length hi - HT.sIx xs.length 0 lo)
def dCut (lo hi : Option Int) : D → Res D
  | .tup xs => .ok (.tup (cutL xs lo hi))
  | .lst xs => .ok (.lst (cutL xs lo hi))
  | .str x => if x.length ≤ sizeLine then .ok (.str (cutS x lo hi)) else .bad
  | _ => .bad
def eCut (f : Env → Res D) (fl fh : Env → Res (Option Int)) : Env → Res D := fun e => (f e).bind fun d => (fl e).bind fun lo => (fh e).bind fun hi => dCut lo hi d
theorem cutL_all {α : Type} {xs : List α} {lo hi : Option Int} (h : HT.sIx xs.length 0 lo = 0 ∧ HT.sIx xs.length xs.length hi = xs.length) : cutL xs lo hi = xs := by
  unfold cutL
  rw [h.1, h.2]
  simp
theorem RepL.cut {K : PySem.W.Frag} {G : Hp} {ds : List D} {vs : List V} (lo hi : Option Int) (h : RepL K G ds vs) : RepL K G (cutL ds lo hi) (cutV vs lo hi) := by
  unfold cutL cutV
  rw [h.length]
  exact (h.drop _).take _
section
variable {X : Cx} {W : WX} {A : Nat → Prop} {a b : Expr} {lo hi : Option Expr} {rest : List Expr} {pos p2 : Pos}
theorem do_none : DO X W A none oNone := po_none.imp fun σ H Q ⟨e, G, E, p⟩ => p.here E.sub
theorem do_some {f : Env → Res D} (h : DE X W A a f) : DO X W A (some a) (oSome f) :=
  (po_some h).imp fun σ H Q ⟨e, G, E, p⟩ => ⟨e, G, E, p.split.imp fun d H1 G1 x1 p1 v rv => by
    cases d with
    | int i => exact ⟨i, rv, p1.here x1.gh⟩
    | _ => exact (show False from p1).elim⟩
theorem de_cut {f : Env → Res D} {fl fh : Env → Res (Option Int)} (ha : DR X W A a f) (hl : DO X W A lo fl) (hh : DO X W A hi fh) : DE X W A (.Subscript a (.Slice lo hi none p2) pos) (eCut f fl fh) := by
  refine (pe_slice (SlR.or sl_tupA (SlR.or sl_list sl_str)) ha hl hh).imp fun σ H Q ⟨e, G, E, p⟩ => ?_
  refine ⟨e, G, E, p.split.imp fun d H1 G1 x1 p1 v rv => ⟨e, G1, E.ext x1, p1.split.imp fun l H2 G2 x2 p2 => ⟨e, G2, (E.ext x1).ext x2, p2.split.imp fun u H3 G3 x3 p3 => ?_⟩⟩⟩
  have rv := (rv.mono x2.hh x2.gg).mono x3.hh x3.gg
  have sg := x3.gh
  cases d with
  | tup ds =>
    obtain ⟨q, vs, eq, s, r⟩ := (show Rep X.K G3 (.tup ds) v from rv)
    refine .inl ⟨q, vs, eq, sg.pt s, fun hw => ?_, fun hw q2 hq => ?_⟩
    · refine PostG.val (d := .tup (cutL ds l u)) p3 sg ⟨q, vs, rfl, s, ?_⟩
      rw [r.length] at hw
      rw [cutL_all hw]
      exact r
    · exact (show PostG X.K X.mg _ H3 G3 (Res.ok (D.tup (cutL ds l u))) _ from p3) _ _ (Ext.laid sg hq) _ ⟨q2, _, rfl, upd_same, (r.cut l u).mono (Sub.upd (sg.free hq))⟩
  | lst ds =>
    obtain ⟨q, vs, eq, s, r⟩ := rv
    refine .inr (.inl ⟨q, vs, eq, s, fun q2 hq => ?_⟩)
    exact (show PostG X.K X.mg _ H3 G3 (Res.ok (D.lst (cutL ds l u))) _ from p3) _ _ (Ext.laid sg hq) _ ⟨q2, _, rfl, SqL.of upd_same, (r.cut l u).mono (Sub.upd (sg.free hq))⟩
  | str z =>
    dsimp only [dCut] at p3
    by_cases hz : z.length ≤ sizeLine
    · rw [if_pos hz] at p3
      exact .inr (.inr ⟨z, rv, hz, p3.val sg rfl⟩)
    · rw [if_neg hz] at p3; exact p3.elim
  | _ => exact (show False from p3).elim
end

/-! ### calls of built-ins -/
def e1 (g : D → Res D) (f : Env → Res D) : Env → Res D := fun e => (f e).bind g
/-- a call of one value: what it does on data -/
def Call1 (X : Cx) (W : WX) (f : Value) (g : D → Res D) : Prop :=
  ∃ r, CallR X f r ∧ ∀ (σ : L2.St) (H G : Hp) (x : V) (dx : D) (Q : VK), Sub G H → RepC X.K H G dx x →
    PostG X.K X.mg (fun c o H' => W c o σ H') H G (g dx) (fun d H' G' => ∀ v, Rep X.K G' d v → Q v H') → r [x] H Q
/-- .. that makes a new list or dict -/
def Call1F (X : Cx) (W : WX) (f : Value) (g : D → Res D) : Prop :=
  ∃ r, CallR X f r ∧ ∀ (σ : L2.St) (H G : Hp) (x : V) (dx : D) (Q : VK), Sub G H → RepC X.K H G dx x →
    PostG X.K X.mg (fun c o H' => W c o σ H') H G (g dx) (fun d H' G' => ∀ a, H a = none → G' a = none → OwnC X.K H' G' d a → Q (.ref a) H') → r [x] H Q
section
variable {X : Cx} {W : WX} {A : Nat → Prop} {a b : Expr} {rest : List Expr} {x : Str} {p pos : Pos} {id T : String}
theorem de_b1 {g : D → Res D} {f : Env → Res D} (hc : Call1 X W (.builtin id) g) (hg : Gl X x) (hm : X.mg x = none) (hv : bootBuiltins x = some (.builtin id)) (ha : DR X W A a f) (hn : x ≠ "__name__" := by decide) (hdb : (x == ("__debug__" : Str)) = false := by decide)
    (he : starEach (a :: []) X.env = (false, eval a X.env) :: starEach [] X.env := by rfl) (hpl : (backTo pos (starEach [] X.env)).any (·.1) = false := by rfl) : DE X W A (.Call (.Name x p) [a] [] pos) (e1 g f) := by
  obtain ⟨r, h1, h2⟩ := hc
  exact (pe_callB h1 hg hm hv (pa_cons ha pa_nil he) hn hdb he hpl).imp fun σ H Q ⟨e, G, E, p⟩ => ⟨e, G, E, p.split.imp fun d H1 G1 x1 p1 v rv => h2 σ H1 G1 v d Q x1.gh rv p1⟩
theorem de_t1 {g : D → Res D} {f : Env → Res D} (hc : Call1 X W (.type T) g) (hg : Gl X x) (hm : X.mg x = none) (hv : bootBuiltins x = some (.type T)) (ha : DR X W A a f) (hn : x ≠ "__name__" := by decide) (hdb : (x == ("__debug__" : Str)) = false := by decide)
    (he : starEach (a :: []) X.env = (false, eval a X.env) :: starEach [] X.env := by rfl) (hpl : (backTo pos (starEach [] X.env)).any (·.1) = false := by rfl) : DE X W A (.Call (.Name x p) [a] [] pos) (e1 g f) := by
  obtain ⟨r, h1, h2⟩ := hc
  exact (pe_callTy h1 hg hm hv (pa_cons ha pa_nil he) hn hdb he hpl).imp fun σ H Q ⟨e, G, E, p⟩ => ⟨e, G, E, p.split.imp fun d H1 G1 x1 p1 v rv => h2 σ H1 G1 v d Q x1.gh rv p1⟩
theorem df_b1 {g : D → Res D} {f : Env → Res D} (hc : Call1F X W (.builtin id) g) (hg : Gl X x) (hm : X.mg x = none) (hv : bootBuiltins x = some (.builtin id)) (ha : DR X W A a f) (hn : x ≠ "__name__" := by decide) (hdb : (x == ("__debug__" : Str)) = false := by decide)
    (he : starEach (a :: []) X.env = (false, eval a X.env) :: starEach [] X.env := by rfl) (hpl : (backTo pos (starEach [] X.env)).any (·.1) = false := by rfl) : DF X W A (.Call (.Name x p) [a] [] pos) (e1 g f) := by
  obtain ⟨r, h1, h2⟩ := hc
  exact (pe_callB h1 hg hm hv (pa_cons ha pa_nil he) hn hdb he hpl).imp fun σ H Q ⟨e, G, E, p⟩ => ⟨e, G, E, p.split.imp fun d H1 G1 x1 p1 v rv => h2 σ H1 G1 v d Q x1.gh rv (p1.imp fun z H2 G2 x2 q c hc => q c (x1.hh.free hc))⟩
/-! len, abs, max, min, int, list, tuple, sum .. -/
def rLenD : List V → Hp → VK → Prop := fun xs H Q => ∃ a n, xs = [V.ref a] ∧ ((∃ kvs, Rd H a (.dK kvs) ∧ n = kvs.length) ∨ ∃ kvs, Rd H a (.dT kvs) ∧ n = kvs.length) ∧ Q (.int ((n : Nat) : Int)) H
theorem cr_lenD : CallR X (.builtin "len") rLenD := by
  intro pins s σ H xs us Q I r h
  obtain ⟨a, n, rfl, hd, q⟩ := h
  obtain ⟨u, rfl, rx⟩ := vals1 r
  obtain rfl : u = .ref a := rx
  rcases hd with ⟨kvs, hk, rfl⟩ | ⟨kvs, hk, rfl⟩
  · exact d_len I hk fun t s' I' => ⟨.int _, H, I', ⟨_, rfl⟩, q⟩
  · obtain ⟨z, hd, ys, rel, dd⟩ := dt_rd I.hok hk
    have hl : kvs.length = ys.length := Paired.length rel
    refine call_len_dictH hd dd (by rw [← hl]; rw [PySem.sizeLine_eq] at z; omega) ?_
    rw [← hl]
    exact ⟨.int ((kvs.length : Nat) : Int), H, I.tok _, ⟨_, rfl⟩, q⟩
def dLen : D → Res D
  | .lst xs => .ok (.int xs.length)
  | .tup xs => .ok (.int xs.length)
  | .con xs => .ok (.int xs.length)
  | .str x => if x.length ≤ sizeLine then .ok (.int x.length) else .bad
  | .dct _ kvs => .ok (.int kvs.length)
  | _ => .bad
theorem c1_len : Call1 X W (.builtin "len") dLen := by
  refine ⟨_, CallR.or call_len cr_lenD, fun σ H G x dx Q sg rx p => ?_⟩
  cases dx with
  | lst ds =>
    obtain ⟨q, vs, e, s, r⟩ := rx
    subst e
    refine .inl ⟨_, vs.length, rfl, .inl ⟨vs, s, rfl⟩, ?_⟩
    rw [r.length]
    exact PostG.val (d := .int ds.length) p sg rfl
  | tup ds =>
    obtain ⟨q, vs, e, s, r⟩ := (show Rep X.K G (.tup ds) x from rx)
    subst e
    refine .inl ⟨_, vs.length, rfl, .inr ⟨vs, sg.pt s, rfl⟩, ?_⟩
    rw [r.length]
    exact PostG.val (d := .int ds.length) p sg rfl
  | con ds =>
    obtain ⟨q, vs, e, s, r⟩ := (show Rep X.K G (.con ds) x from rx)
    subst e
    refine .inl ⟨_, vs.length, rfl, .inr ⟨vs, sg.sqt s.sqt, rfl⟩, ?_⟩
    rw [r.length]
    exact PostG.val (d := .int ds.length) p sg rfl
  | dct t kvs =>
    obtain ⟨a, e, h⟩ := rx
    subst e
    have p' : Q (.int ((kvs.length : Nat) : Int)) H := PostG.val (d := .int kvs.length) p sg rfl
    rcases h with ⟨_, ps, h1, h2, _⟩ | ⟨_, ps, h1, h2, _⟩
    · have hl := congrArg List.length h2
      rw [List.length_map, List.length_map] at hl
      exact .inr ⟨a, ps.length, rfl, .inl ⟨ps, h1, rfl⟩, by rw [← hl]; exact p'⟩
    · have hl := congrArg List.length h2
      rw [List.length_map, List.length_map] at hl
      exact .inr ⟨a, ps.length, rfl, .inr ⟨ps, h1, rfl⟩, by rw [← hl]; exact p'⟩
  | str z =>
    have : x = .str z := rx
    subst this
    dsimp only [dLen] at p
    by_cases hz : z.length ≤ sizeLine
    · rw [if_pos hz] at p
      exact .inl ⟨_, z.length, rfl, ⟨hz, rfl⟩, p.val sg rfl⟩
    · rw [if_neg hz] at p; exact p.elim
  | _ => exact (show False from p).elim
def dAbs : D → Res D
  | .int i => .ok (.int (if i < 0 then -i else i))
  | _ => .bad
def dMax : D → D → Res D
  | .int i, .int j => .ok (.int (if j > i then j else i))
  | _, _ => .bad
def dMin : D → D → Res D
  | .int i, .int j => .ok (.int (if j < i then j else i))
  | _, _ => .bad
def dTuple : D → Res D
  | .lst xs => .ok (.tup xs)
  | .tup xs => .ok (.tup xs)
  | .con xs => .ok (.con xs)
  | _ => .bad
theorem c1_tuple : Call1 X W (.type "tuple") dTuple := by
  refine ⟨_, call_tuple_of, fun σ H G x dx Q sg rx p => ?_⟩
  cases dx with
  | lst ds =>
    obtain ⟨q, vs, e, s, r⟩ := rx
    subst e
    refine ⟨q, vs, rfl, .inl ⟨s, fun l hl => ?_⟩⟩
    exact (show PostG X.K X.mg _ H G (Res.ok (D.tup ds)) _ from p) _ _ (Ext.laid sg hl) _ ⟨l, vs, rfl, upd_same, r.mono (Sub.upd (sg.free hl))⟩
  | tup ds =>
    have rx : Rep X.K G (.tup ds) x := rx
    obtain ⟨q, vs, e, s, r⟩ := id rx
    subst e
    exact ⟨q, vs, rfl, .inr ⟨sg.pt s, PostG.val (d := .tup ds) p sg rx⟩⟩
  | con ds =>
    have rx : Rep X.K G (.con ds) x := rx
    obtain ⟨q, vs, e, s, r⟩ := id rx
    subst e
    exact ⟨q, vs, rfl, .inr ⟨sg.sqt s.sqt, PostG.val (d := .con ds) p sg rx⟩⟩
  | _ => exact (show False from p).elim
def dList : D → Res D
  | .lst xs => .ok (.lst xs)
  | .tup xs => .ok (.lst xs)
  | .con xs => .ok (.lst xs)
  | _ => .bad
/-- the ints of a list of ints -/
def D.ints : List D → Option (List Int)
  | [] => some []
  | .int i :: r => (D.ints r).map fun ns => i :: ns
  | _ :: _ => none
@[simp] theorem ints_map : ∀ ns : List Int, D.ints (ns.map D.int) = some ns
  | [] => rfl
  | n :: r => by show (D.ints (r.map D.int)).map _ = _; rw [ints_map r]; rfl
def D.bls : List D → Option (List Bool)
  | [] => some []
  | .bl i :: r => (D.bls r).map fun ns => i :: ns
  | _ :: _ => none
theorem bls_eq : ∀ {ds : List D} {ns : List Bool}, D.bls ds = some ns → ds = ns.map D.bl
  | [], ns, h => by cases h; rfl
  | d :: r, ns, h => by
    cases d with
    | bl i =>
      dsimp only [D.bls] at h
      cases e : D.bls r with
      | none => rw [e] at h; cases h
      | some ms => rw [e] at h; cases h; rw [bls_eq e]; rfl
    | _ => cases h
@[simp] theorem bls_map : ∀ ns : List Bool, D.bls (ns.map D.bl) = some ns
  | [] => rfl
  | n :: r => by show (D.bls (r.map D.bl)).map _ = _; rw [bls_map r]; rfl
def dSum : D → Res D
  | .lst xs => match D.ints xs with
    | some ns => .ok (.int ns.sum)
    | none => .bad
  | _ => .bad
def dAll : D → Res D
  | .lst xs => match D.bls xs with
    | some ns => .ok (.bl (ns.all _root_.id))
    | none => .bad
  | _ => .bad
theorem c1_all (hc : X.calm = true) : Call1 X W (.builtin "all") dAll := by
  refine ⟨_, cr_all hc, fun σ H G x dx Q sg rx p => ?_⟩
  cases dx with
  | lst ds =>
    obtain ⟨q, vs, e, s, r⟩ := rx
    subst e
    dsimp only [dAll] at p
    cases hi : D.bls ds with
    | none => rw [hi] at p; exact p.elim
    | some ns =>
      rw [hi] at p
      rw [bls_eq hi] at r
      rw [r.bls] at s
      exact ⟨q, ns, rfl, s, p.val sg rfl⟩
  | _ => exact (show False from p).elim
end
end DL

namespace DL
open PySem PySem.Spec PyProof.Rows L2
open PySem.Builtin.Int (intBits)

/-! ### statements -/
inductive Out where
  | nx (e : Env)
  | rt (d : D)
  | ro (d : D)
  | rm (d : D) (e : Env)
  | bk (e : Env)
  | ct (e : Env)
  | ex (c : String) (fs : List (D × D)) (e : Env)
  | bad

def unown (i : Nat) (e : Env) : Env := match e[i]? with
  | some (some (d, true)) => e.set i (some (d, false))
  | _ => e
/-- these names' lists and dicts are not changed any more -/
def fz : List Nat → Env → Env
  | [], e => e
  | i :: r, e => fz r (unown i e)
@[simp] theorem fz_nil (e : Env) : fz [] e = e := rfl
theorem unown_get (i : Nat) (e : Env) (j : Nat) : (unown i e)[j]? = if j = i then (match e[j]? with | some (some (d, _)) => some (some (d, false)) | z => z) else e[j]? := by
  unfold unown
  by_cases h : j = i
  · subst h
    rw [if_pos rfl]
    cases q : e[j]? with
    | none => simp only [q]
    | some s =>
      have hl : j < e.length := (List.getElem?_eq_some_iff.mp q).1
      cases s with
      | none => simp only [q]
      | some z =>
        obtain ⟨d, o⟩ := z
        cases o with
        | true => simp only []; rw [List.getElem?_set_self hl]
        | false => simp only [q]
  · rw [if_neg h]
    split
    · rw [List.getElem?_set_ne (Ne.symm h)]
    · rfl
theorem unown_length (i : Nat) (e : Env) : (unown i e).length = e.length := by
  unfold unown
  split
  · rw [List.length_set]
  · rfl
theorem fz_length : ∀ (al : List Nat) (e : Env), (fz al e).length = e.length
  | [], e => rfl
  | i :: r, e => by rw [fz, fz_length r, unown_length]
theorem fz_get : ∀ (al : List Nat) (e : Env) (j : Nat) (d : D) (o : Bool), (fz al e)[j]? = some (some (d, o)) → ∃ o', e[j]? = some (some (d, o')) ∧ ((o = o' ∧ (o' = true → j ∉ al)) ∨ (o = false ∧ o' = true ∧ j ∈ al))
  | [], e, j, d, o, h => ⟨o, h, .inl ⟨rfl, fun _ => by simp⟩⟩
  | i :: r, e, j, d, o, h => by
    obtain ⟨o1, h1, h2⟩ := fz_get r (unown i e) j d o h
    rw [unown_get] at h1
    by_cases hj : j = i
    · rw [if_pos hj] at h1
      cases q : e[j]? with
      | none => rw [q] at h1; cases h1
      | some s => cases s with
        | none => rw [q] at h1; cases h1
        | some z =>
          obtain ⟨d', o'⟩ := z
          rw [q] at h1
          cases h1
          rcases h2 with ⟨rfl, _⟩ | ⟨_, z, _⟩
          · cases o' with
            | true => exact ⟨true, rfl, .inr ⟨rfl, rfl, by simp [hj]⟩⟩
            | false => exact ⟨false, rfl, .inl ⟨rfl, fun z => by cases z⟩⟩
          · cases z
    · rw [if_neg hj] at h1
      refine ⟨o1, h1, ?_⟩
      rcases h2 with ⟨a, b⟩ | ⟨a, b, c⟩
      · exact .inl ⟨a, fun z => by simp [hj, b z]⟩
      · exact .inr ⟨a, b, by simp [c]⟩

/-- a def's entry: the caller's part of the heap, and where the lists and dicts stand that are lent to it to be changed -/
structure Bas where
  hp : Hp
  pin : Nat → Option Addr
/-- nothing is lent -/
abbrev Bas.of (H : Hp) : Bas := ⟨H, fun _ => none⟩
/-- the state between two statements: H0, G0 at the def's entry -/
structure StOk (K : PySem.W.Frag) (H0 : Bas) (G0 : Hp) (σ : L2.St) (e : Env) (H G : Hp) : Prop where
  ext : Ext H0.hp G0 H G
  len : σ.length = e.length
  sh : ∀ (i : Nat) d, e[i]? = some (some (d, false)) → ∃ v, σ[i]? = some (some v) ∧ Rep K G d v
  ow : ∀ (i : Nat) d, e[i]? = some (some (d, true)) → ∃ a, σ[i]? = some (some (.ref a)) ∧ H0.hp a = none ∧ G a = none ∧ OwnC K H G d a
  ne : ∀ (i j : Nat) d d' a, e[i]? = some (some (d, true)) → e[j]? = some (some (d', true)) → σ[i]? = some (some (.ref a)) → σ[j]? = some (some (.ref a)) → i = j
  pn : ∀ (i : Nat) a d, H0.pin i = some a → e[i]? = some (some (d, true)) → σ[i]? = some (some (.ref a))
/-- what a reckoning of the names at al may keep -/
def OwnAt (σ : L2.St) (e : Env) (al : List Nat) (b : Addr) : Prop := ∃ (i : Nat) (d : D), i ∈ al ∧ e[i]? = some (some (d, true)) ∧ σ[i]? = some (some (.ref b))
open Classical in
noncomputable def gA (σ : L2.St) (e : Env) (al : List Nat) (H G : Hp) : Hp := fun b => if OwnAt σ e al b then H b else G b
/-- no dict at al is owned -/
def NoDct (al : List Nat) (e : Env) : Prop := ∀ (i : Nat) d, i ∈ al → e[i]? = some (some (d, true)) → d.isDct = false
theorem StOk.exp0 {K : PySem.W.Frag} {H0 : Bas} {G0 H G : Hp} {σ : L2.St} {e : Env} (S : StOk K H0 G0 σ e H G) (al : List Nat) (nd : NoDct al e) :
    ∃ GA, EnvG K (fun i => i ∈ al) σ e H GA ∧ ∀ H' G', Ext H GA H' G' → StOk K H0 G0 σ (fz al e) H' G' := by
  have yes : ∀ {b : Addr}, OwnAt σ e al b → gA σ e al H G b = H b := fun h => if_pos h
  have no : ∀ {b : Addr}, ¬ OwnAt σ e al b → gA σ e al H G b = G b := fun h => if_neg h
  have gown : ∀ {b : Addr}, OwnAt σ e al b → G b = none := fun {b} ⟨i, d, _, h1, h2⟩ => by
    obtain ⟨a, q1, _, q2, _⟩ := S.ow i d h1
    rw [h2] at q1; cases q1; exact q2
  have s1 : Sub G (gA σ e al H G) := fun b o q => by
    by_cases h : OwnAt σ e al b
    · rw [gown h] at q; cases q
    · rw [no h]; exact q
  have s2 : Sub (gA σ e al H G) H := fun b o q => by
    by_cases h : OwnAt σ e al b
    · rw [yes h] at q; exact q
    · rw [no h] at q; exact S.ext.gh _ _ q
  have keep : ∀ (i : Nat) (d : D), i ∈ al → e[i]? = some (some (d, true)) → ∃ v, σ[i]? = some (some v) ∧ Rep K (gA σ e al H G) d v := fun i d hi h => by
    obtain ⟨a, q1, _, _, q5⟩ := S.ow i d h
    exact ⟨_, q1, q5.put (nd i d hi h) s1 (yes ⟨i, d, hi, h, q1⟩)⟩
  refine ⟨gA σ e al H G, ⟨s2, S.len, fun i d o h => ?_⟩, fun H' G' x => ?_⟩
  · cases o with
    | false =>
      obtain ⟨v, q1, q2⟩ := S.sh i d h
      exact ⟨v, q1, fun _ => q2.mono s1, (q2.c S.ext.gh).mono (Sub.refl _) s1⟩
    | true =>
      obtain ⟨a, q1, q2, q3, q5⟩ := S.ow i d h
      refine ⟨_, q1, fun z => ?_, q5.c.mono (Sub.refl _) s1⟩
      rcases z with z | z
      · exact q5.put (nd i d z h) s1 (yes ⟨i, d, z, h, q1⟩)
      · cases z
  · refine ⟨⟨S.ext.hh.trans x.hh, S.ext.gg.trans (s1.trans x.gg), x.gh, fun b z => ?_⟩, by rw [fz_length]; exact S.len, fun i d h => ?_, fun i d h => ?_, fun i j d d' a h1 h2 h3 h4 => ?_, fun i a d hp h => ?_⟩
    · rcases x.new b z with z | z
      · by_cases h : OwnAt σ e al b
        · obtain ⟨i, d, _, h1, h2⟩ := h
          obtain ⟨a, q1, q2, _⟩ := S.ow i d h1
          rw [h2] at q1; cases q1; exact .inr (.inl q2)
        · rw [no h] at z; exact S.ext.new b z
      · exact .inr (z.back S.ext.hh)
    · obtain ⟨o', h1, h2⟩ := fz_get al e i d false h
      rcases h2 with ⟨rfl, _⟩ | ⟨_, rfl, hi⟩
      · obtain ⟨v, q1, q2⟩ := S.sh i d h1
        exact ⟨v, q1, q2.mono (s1.trans x.gg)⟩
      · obtain ⟨v, q1, q2⟩ := keep i d hi h1
        exact ⟨v, q1, q2.mono x.gg⟩
    · obtain ⟨o', h1, h2⟩ := fz_get al e i d true h
      rcases h2 with ⟨rfl, hi⟩ | ⟨z, _⟩
      · obtain ⟨a, q1, q2, q3, q5⟩ := S.ow i d h1
        refine ⟨a, q1, q2, ?_, q5.mono x.hh (s1.trans x.gg)⟩
        cases hg : G' a with
        | none => rfl
        | some u =>
          rcases x.new a (by rw [hg]; simp) with z | z
          · have nown : ¬ OwnAt σ e al a := fun ⟨j, d', hj, w1, w2⟩ => hi rfl (by rw [S.ne i j d d' a h1 w1 q1 w2]; exact hj)
            rw [no nown] at z
            exact absurd q3 z
          · exact absurd z q5.nfr
      · cases z
    · obtain ⟨o1, w1, z1⟩ := fz_get al e i d true h1
      obtain ⟨o2, w2, z2⟩ := fz_get al e j d' true h2
      have e1 : o1 = true := by rcases z1 with ⟨z, _⟩ | ⟨z, _⟩; exact z.symm; cases z
      have e2 : o2 = true := by rcases z2 with ⟨z, _⟩ | ⟨z, _⟩; exact z.symm; cases z
      subst e1 e2
      exact S.ne i j d d' a w1 w2 h3 h4
    · obtain ⟨o1, w1, z1⟩ := fz_get al e i d true h
      have e1 : o1 = true := by rcases z1 with ⟨z, _⟩ | ⟨z, _⟩; exact z.symm; cases z
      subst e1
      exact S.pn i a d hp w1

theorem set_get {α : Type} {e : List α} {i j : Nat} {x y : α} (h : (e.set i x)[j]? = some y) : (j = i ∧ y = x) ∨ (j ≠ i ∧ e[j]? = some y) := by
  by_cases hj : j = i
  · subst hj
    by_cases hl : j < e.length
    · rw [List.getElem?_set_self hl] at h; cases h; exact .inl ⟨rfl, rfl⟩
    · rw [List.getElem?_eq_none (by simpa using hl)] at h; cases h
  · rw [List.getElem?_set_ne (Ne.symm hj)] at h; exact .inr ⟨hj, h⟩
/-! the dicts at al are locked -/
def unownD (i : Nat) (e : Env) : Env := match e[i]? with
  | some (some (.dct t kvs, true)) => e.set i (some (.dct t kvs, false))
  | _ => e
def fzD : List Nat → Env → Env
  | [], e => e
  | i :: r, e => fzD r (unownD i e)
theorem unownD_get (i : Nat) (e : Env) (j : Nat) (d : D) (o : Bool) (h : (unownD i e)[j]? = some (some (d, o))) : ∃ o', e[j]? = some (some (d, o')) ∧ ((o = o' ∧ (o' = true → j = i → d.isDct = false)) ∨ (o = false ∧ o' = true ∧ j = i)) := by
  unfold unownD at h
  split at h
  · rename_i t kvs he
    by_cases hj : j = i
    · subst hj
      have hl : j < e.length := (List.getElem?_eq_some_iff.mp he).1
      rw [List.getElem?_set_self hl] at h
      cases h
      exact ⟨true, he, .inr ⟨rfl, rfl, rfl⟩⟩
    · rw [List.getElem?_set_ne (Ne.symm hj)] at h
      exact ⟨o, h, .inl ⟨rfl, fun _ z => absurd z hj⟩⟩
  · rename_i hn
    refine ⟨o, h, .inl ⟨rfl, fun z w => ?_⟩⟩
    subst z w
    cases d with
    | dct t kvs => exact absurd h (hn t kvs)
    | _ => rfl
theorem fzD_length : ∀ (al : List Nat) (e : Env), (fzD al e).length = e.length
  | [], e => rfl
  | i :: r, e => by
    rw [fzD, fzD_length r]
    unfold unownD
    split
    · rw [List.length_set]
    · rfl
theorem fzD_get : ∀ (al : List Nat) (e : Env) (j : Nat) (d : D) (o : Bool), (fzD al e)[j]? = some (some (d, o)) → ∃ o', e[j]? = some (some (d, o')) ∧ ((o = o' ∧ (o' = true → j ∈ al → d.isDct = false)) ∨ (o = false ∧ o' = true ∧ j ∈ al))
  | [], e, j, d, o, h => ⟨o, h, .inl ⟨rfl, fun _ z => by cases z⟩⟩
  | i :: r, e, j, d, o, h => by
    obtain ⟨o1, h1, h2⟩ := fzD_get r (unownD i e) j d o h
    obtain ⟨o2, h3, h4⟩ := unownD_get i e j d o1 h1
    refine ⟨o2, h3, ?_⟩
    rcases h2 with ⟨rfl, a⟩ | ⟨rfl, rfl, a⟩
    · rcases h4 with ⟨rfl, b⟩ | ⟨rfl, rfl, rfl⟩
      · refine .inl ⟨rfl, fun z w => ?_⟩
        rcases List.mem_cons.mp w with w | w
        · exact b z w
        · exact a z w
      · exact .inr ⟨rfl, rfl, List.mem_cons_self⟩
    · rcases h4 with ⟨rfl, b⟩ | ⟨z, _, _⟩
      · exact .inr ⟨rfl, rfl, List.mem_cons_of_mem _ a⟩
      · cases z
theorem fzD_keep : ∀ (al : List Nat) (e : Env) (j : Nat) (d : D) (o : Bool), e[j]? = some (some (d, o)) → ∃ o', (fzD al e)[j]? = some (some (d, o')) ∧ (o = false → o' = false)
  | [], e, j, d, o, h => ⟨o, h, id⟩
  | i :: r, e, j, d, o, h => by
    have step : ∃ o', (unownD i e)[j]? = some (some (d, o')) ∧ (o = false → o' = false) := by
      unfold unownD
      split
      · rename_i t kvs he
        by_cases hj : j = i
        · subst hj
          have hl : j < e.length := (List.getElem?_eq_some_iff.mp he).1
          rw [he] at h; cases h
          exact ⟨false, List.getElem?_set_self hl, fun _ => rfl⟩
        · exact ⟨o, by rw [List.getElem?_set_ne (Ne.symm hj)]; exact h, id⟩
      · exact ⟨o, h, id⟩
    obtain ⟨o1, h1, h2⟩ := step
    obtain ⟨o2, h3, h4⟩ := fzD_keep r (unownD i e) j d o1 h1
    exact ⟨o2, h3, fun z => h4 (h2 z)⟩
theorem fzD_none : ∀ (al : List Nat) (e : Env) (j : Nat), (∀ d o, e[j]? ≠ some (some (d, o))) → (fzD al e)[j]? = e[j]?
  | [], e, j, h => rfl
  | i :: r, e, j, h => by
    have step : (unownD i e)[j]? = e[j]? := by
      unfold unownD
      split
      · rename_i t kvs he
        by_cases hj : j = i
        · subst hj; exact absurd he (h _ _)
        · rw [List.getElem?_set_ne (Ne.symm hj)]
      · rfl
    rw [fzD, fzD_none r (unownD i e) j (fun d o => by rw [step]; exact h d o), step]
/-- the flags alone are other -/
theorem env_ext {a b : Env} (h : ∀ j : Nat, a[j]? = b[j]?) : a = b := List.ext_getElem? h
theorem fz_is (al : List Nat) (e : Env) (j : Nat) (d : D) (o : Bool) (h : e[j]? = some (some (d, o))) : (fz al e)[j]? = some (some (d, if j ∈ al then false else o)) := by
  induction al generalizing e o with
  | nil => rw [if_neg (by simp)]; exact h
  | cons i r ih =>
    rw [fz]
    have hu : (unown i e)[j]? = some (some (d, if j = i then false else o)) := by
      rw [unown_get]
      by_cases hj : j = i
      · rw [if_pos hj, h, if_pos hj]
      · rw [if_neg hj, h, if_neg hj]
    rw [ih _ _ hu]
    by_cases h1 : j ∈ r
    · rw [if_pos h1, if_pos (List.mem_cons_of_mem _ h1)]
    · rw [if_neg h1]
      by_cases h2 : j = i
      · rw [if_pos h2, if_pos (by simp [h2])]
      · rw [if_neg h2, if_neg (by simp [h1, h2])]
theorem fz_none (al : List Nat) (e : Env) (j : Nat) (h : ∀ d o, e[j]? ≠ some (some (d, o))) : (fz al e)[j]? = e[j]? := by
  induction al generalizing e with
  | nil => rfl
  | cons i r ih =>
    have step : (unown i e)[j]? = e[j]? := by
      rw [unown_get]
      by_cases hj : j = i
      · rw [if_pos hj]
        split
        · rename_i d o he; exact absurd he (h d o)
        · rfl
      · rw [if_neg hj]
    rw [fz, ih _ (fun d o => by rw [step]; exact h d o), step]
theorem fz_fzD (al : List Nat) (e : Env) : fz al (fzD al e) = fz al e := env_ext fun j => by
  by_cases h : ∃ d o, e[j]? = some (some (d, o))
  · obtain ⟨d, o, h⟩ := h
    obtain ⟨o1, h1, h2⟩ := fzD_keep al e j d o h
    obtain ⟨o2, h3, h4⟩ := fzD_get al e j d o1 h1
    rw [h] at h3; cases h3
    rw [fz_is al _ j d o1 h1, fz_is al e j d o h]
    by_cases hj : j ∈ al
    · rw [if_pos hj, if_pos hj]
    · rw [if_neg hj, if_neg hj]
      rcases h4 with ⟨rfl, _⟩ | ⟨_, _, z⟩
      · rfl
      · exact absurd z hj
  · have n : ∀ d o, e[j]? ≠ some (some (d, o)) := fun d o z => h ⟨d, o, z⟩
    have n2 := fzD_none al e j n
    rw [fz_none al _ j (fun d o => by rw [n2]; exact n d o), fz_none al e j n, n2]
theorem fzD_nd (al : List Nat) (e : Env) : NoDct al (fzD al e) := fun i d hi h => by
  obtain ⟨o', h1, h2⟩ := fzD_get al e i d true h
  rcases h2 with ⟨rfl, z⟩ | ⟨z, _⟩
  · exact z rfl hi
  · cases z
theorem StOk.lock {K : PySem.W.Frag} {H0 : Bas} {G0 : Hp} {σ : L2.St} : ∀ (al : List Nat) {e : Env} {H G : Hp}, StOk K H0 G0 σ e H G → LockT (fun H1 => ∃ G1, StOk K H0 G0 σ (fzD al e) H1 G1) H
  | [], _, _, G, S => .here ⟨G, S⟩
  | i :: r, e, H, G, S => by
    have step : LockT (fun H1 => ∃ G1, StOk K H0 G0 σ (unownD i e) H1 G1) H := by
      unfold unownD
      split
      · rename_i t kvs he
        obtain ⟨a, q1, q2, q3, q5⟩ := S.ow i _ he
        obtain ⟨u, hu, mu, _⟩ := q5.lock rfl (Sub.refl G)
        refine .lock hu mu fun od => .here ⟨upd G a (.frz od u), ?_⟩
        have sg : Sub G (upd G a (.frz od u)) := Sub.upd q3
        have n0 : ∀ {b o}, H0.hp b = some o → b ≠ a := fun {b o} z w => by rw [w, q2] at z; cases z
        refine ⟨⟨fun b o z => by rw [upd_ne (n0 z)]; exact S.ext.hh _ _ z, S.ext.gg.trans sg, fun b o z => ?_, fun b z => ?_⟩, by rw [List.length_set]; exact S.len, fun j d' h => ?_, fun j d' h => ?_, fun j k d1 d2 b h1 h2 h3 h4 => ?_, fun j b d' hp h => ?_⟩
        · by_cases hb : b = a
          · subst hb; rw [upd_same] at z ⊢; exact z
          · rw [upd_ne hb] at z ⊢; exact S.ext.gh _ _ z
        · by_cases hb : b = a
          · subst hb; exact .inr (.inl q2)
          · rw [upd_ne hb] at z; exact S.ext.new b z
        · rcases set_get h with ⟨rfl, z⟩ | ⟨hj, z⟩
          · cases z
            obtain ⟨u', hu', _, k⟩ := q5.lock rfl sg
            rw [hu] at hu'; cases hu'
            exact ⟨_, q1, k od upd_same⟩
          · obtain ⟨v, w1, w2⟩ := S.sh j d' z
            exact ⟨v, w1, w2.mono sg⟩
        · rcases set_get h with ⟨_, z⟩ | ⟨hj, z⟩
          · cases z
          · obtain ⟨b, w1, w2, w3, w4⟩ := S.ow j d' z
            have nb : b ≠ a := fun q => hj (S.ne j i d' _ a z he (by rw [w1, q]) q1)
            exact ⟨b, w1, w2, by rw [upd_ne nb]; exact w3, w4.mono' (fun o' z => by rw [upd_ne nb]; exact z) sg⟩
        · rcases set_get h1 with ⟨_, z⟩ | ⟨hj, z1⟩
          · cases z
          · rcases set_get h2 with ⟨_, z⟩ | ⟨hk, z2⟩
            · cases z
            · exact S.ne j k d1 d2 b z1 z2 h3 h4
        · rcases set_get h with ⟨_, z⟩ | ⟨hj, z⟩
          · cases z
          · exact S.pn j b d' hp z
      · exact .here ⟨G, S⟩
    exact step.bind fun H1 ⟨G1, S1⟩ => StOk.lock r S1
theorem fz_fzD_own {al : List Nat} {e : Env} {j : Nat} {d : D} (h : (fz al e)[j]? = some (some (d, true))) : (fzD al e)[j]? = some (some (d, true)) := by
  rw [← fz_fzD] at h
  obtain ⟨o', w1, w2⟩ := fz_get al _ j d true h
  have e1 : o' = true := by rcases w2 with ⟨z, _⟩ | ⟨z, _⟩; exact z.symm; cases z
  rw [e1] at w1
  exact w1
/-- a reckoning's state: the dicts that are handed on are locked -/
theorem StOk.exp {K : PySem.W.Frag} {H0 : Bas} {G0 H G : Hp} {σ : L2.St} {e : Env} (S : StOk K H0 G0 σ e H G) (al : List Nat) :
    LockT (fun H1 => ∃ G1 GA, StOk K H0 G0 σ (fzD al e) H1 G1 ∧ EnvG K (fun i => i ∈ al) σ e H1 GA ∧ ∀ H' G', Ext H1 GA H' G' → StOk K H0 G0 σ (fz al e) H' G') H :=
  (S.lock al).imp fun H1 ⟨G1, S1⟩ => by
    obtain ⟨GA, E, nxt⟩ := S1.exp0 al (fzD_nd al e)
    refine ⟨G1, GA, S1, ⟨E.sub, by rw [E.len, fzD_length], fun i d o h => ?_⟩, fun H' G' x => by rw [← fz_fzD]; exact nxt H' G' x⟩
    obtain ⟨o1, h1, h2⟩ := fzD_keep al e i d o h
    obtain ⟨v, w1, w2, w3⟩ := E.val i d o1 h1
    exact ⟨v, w1, fun z => w2 (z.imp id h2), w3⟩

/-! a name is stored -/
section
variable {K : PySem.W.Frag} {H0 : Bas} {G0 H G : Hp} {σ : L2.St} {e : Env}
theorem StOk.lt (S : StOk K H0 G0 σ e H G) {i : Nat} {s : Sl} {x : Sl} (h : (e.set i x)[i]? = some s) : i < σ.length := by
  by_cases hl : i < e.length
  · rw [S.len]; exact hl
  · rw [List.getElem?_eq_none (by simpa using hl)] at h; cases h
theorem StOk.set (S : StOk K H0 G0 σ e H G) (i : Nat) {d : D} {v : V} (r : Rep K G d v) : StOk K H0 G0 (σ.set i (some v)) (e.set i (some (d, false))) H G := by
  refine ⟨S.ext, by rw [List.length_set, List.length_set]; exact S.len, fun j d' h => ?_, fun j d' h => ?_, fun j k d1 d2 a h1 h2 h3 h4 => ?_, fun j a d' hp h => ?_⟩
  · rcases set_get h with ⟨rfl, z⟩ | ⟨hj, z⟩
    · cases z
      exact ⟨v, List.getElem?_set_self (S.lt h), r⟩
    · obtain ⟨w, q1, q2⟩ := S.sh j d' z
      exact ⟨w, by rw [List.getElem?_set_ne (Ne.symm hj)]; exact q1, q2⟩
  · rcases set_get h with ⟨_, z⟩ | ⟨hj, z⟩
    · cases z
    · obtain ⟨a, q1, q2⟩ := S.ow j d' z
      exact ⟨a, by rw [List.getElem?_set_ne (Ne.symm hj)]; exact q1, q2⟩
  · rcases set_get h1 with ⟨_, z⟩ | ⟨hj, z1⟩
    · cases z
    · rcases set_get h2 with ⟨_, z⟩ | ⟨hk, z2⟩
      · cases z
      · rw [List.getElem?_set_ne (Ne.symm hj)] at h3
        rw [List.getElem?_set_ne (Ne.symm hk)] at h4
        exact S.ne j k d1 d2 a z1 z2 h3 h4
  · rcases set_get h with ⟨_, z⟩ | ⟨hj, z⟩
    · cases z
    · rw [List.getElem?_set_ne (Ne.symm hj)]; exact S.pn j a d' hp z
theorem StOk.setF (S : StOk K H0 G0 σ e H G) (i : Nat) {d : D} {a : Addr} {Hb : Hp} (hb : Sub H0.hp Hb) (ho : ∀ (j : Nat) d b, e[j]? = some (some (d, true)) → σ[j]? = some (some (.ref b)) → Hb b ≠ none) (ha : Hb a = none) (ga : G a = none) (rc : OwnC K H G d a) (hpin : H0.pin i = none) :
    StOk K H0 G0 (σ.set i (some (.ref a))) (e.set i (some (d, true))) H G := by
  have other : ∀ (j : Nat) d' b, e[j]? = some (some (d', true)) → σ[j]? = some (some (.ref b)) → b ≠ a := fun j d' b h1 h2 z => ho j d' b h1 h2 (by rw [z]; exact ha)
  refine ⟨S.ext, by rw [List.length_set, List.length_set]; exact S.len, fun j d' h => ?_, fun j d' h => ?_, fun j k d1 d2 b h1 h2 h3 h4 => ?_, fun j b d' hp h => ?_⟩
  · rcases set_get h with ⟨_, z⟩ | ⟨hj, z⟩
    · cases z
    · obtain ⟨w, q1, q2⟩ := S.sh j d' z
      exact ⟨w, by rw [List.getElem?_set_ne (Ne.symm hj)]; exact q1, q2⟩
  · rcases set_get h with ⟨rfl, z⟩ | ⟨hj, z⟩
    · cases z
      exact ⟨a, List.getElem?_set_self (S.lt h), hb.free ha, ga, rc⟩
    · obtain ⟨b, q1, q2⟩ := S.ow j d' z
      exact ⟨b, by rw [List.getElem?_set_ne (Ne.symm hj)]; exact q1, q2⟩
  · rcases set_get h1 with ⟨rfl, z1⟩ | ⟨hj, z1⟩
    · rw [List.getElem?_set_self (S.lt h1)] at h3
      cases h3
      rcases set_get h2 with ⟨e2, _⟩ | ⟨hk, z2⟩
      · exact e2.symm
      · rw [List.getElem?_set_ne (Ne.symm hk)] at h4
        exact absurd rfl (other k d2 a z2 h4)
    · rw [List.getElem?_set_ne (Ne.symm hj)] at h3
      rcases set_get h2 with ⟨rfl, _⟩ | ⟨hk, z2⟩
      · rw [List.getElem?_set_self (S.lt h2)] at h4
        cases h4
        exact absurd rfl (other j d1 a z1 h3)
      · rw [List.getElem?_set_ne (Ne.symm hk)] at h4
        exact S.ne j k d1 d2 b z1 z2 h3 h4
  · rcases set_get h with ⟨rfl, _⟩ | ⟨hj, z⟩
    · rw [hpin] at hp; cases hp
    · rw [List.getElem?_set_ne (Ne.symm hj)]; exact S.pn j b d' hp z
/-- the list or dict of a name is changed -/
theorem StOk.change (S : StOk K H0 G0 σ e H G) {i : Nat} {d d' : D} {a : Addr} {o : HO} (h : e[i]? = some (some (d, true))) (hs : σ[i]? = some (some (.ref a))) (rc : OwnC K (upd H a o) G d' a) :
    StOk K H0 G0 σ (e.set i (some (d', true))) (upd H a o) G := by
  obtain ⟨a', q1, q2, q3, q5⟩ := S.ow i d h
  rw [hs] at q1; cases q1
  have il : i < e.length := (List.getElem?_eq_some_iff.mp h).1
  have nG : ∀ {b u}, G b = some u → b ≠ a := fun {b u} z w => by rw [w, q3] at z; cases z
  have n0 : ∀ {b u}, H0.hp b = some u → b ≠ a := fun {b u} z w => by rw [w, q2] at z; cases z
  refine ⟨⟨fun b u z => by rw [upd_ne (n0 z)]; exact S.ext.hh _ _ z, S.ext.gg, fun b u z => by rw [upd_ne (nG z)]; exact S.ext.gh _ _ z, S.ext.new⟩, by rw [List.length_set]; exact S.len, fun j d1 h1 => ?_, fun j d1 h1 => ?_, fun j k d1 d2 b h1 h2 h3 h4 => ?_, fun j b d1 hp h1 => ?_⟩
  · rcases set_get h1 with ⟨_, z⟩ | ⟨hj, z⟩
    · cases z
    · exact S.sh j d1 z
  · rcases set_get h1 with ⟨rfl, z⟩ | ⟨hj, z⟩
    · cases z
      exact ⟨a, hs, q2, q3, rc⟩
    · obtain ⟨b, w1, w2, w3, w5⟩ := S.ow j d1 z
      have nb : b ≠ a := fun q => hj (S.ne j i d1 d b z h w1 (by rw [q]; exact hs))
      exact ⟨b, w1, w2, w3, w5.mono' (fun o' z => by rw [upd_ne nb]; exact z) (Sub.refl _)⟩
  · have k1 : ∃ d', e[j]? = some (some (d', true)) := by
      rcases set_get h1 with ⟨rfl, _⟩ | ⟨_, z⟩
      · exact ⟨d, h⟩
      · exact ⟨_, z⟩
    have k2 : ∃ d', e[k]? = some (some (d', true)) := by
      rcases set_get h2 with ⟨rfl, _⟩ | ⟨_, z⟩
      · exact ⟨d, h⟩
      · exact ⟨_, z⟩
    obtain ⟨x1, y1⟩ := k1
    obtain ⟨x2, y2⟩ := k2
    exact S.ne j k x1 x2 b y1 y2 h3 h4
  · rcases set_get h1 with ⟨rfl, _⟩ | ⟨_, z⟩
    · exact S.pn j b d hp h
    · exact S.pn j b d1 hp z
end
end DL

namespace DL
open PySem PySem.Spec PyProof.Rows L2
open PySem.Builtin.Int (intBits)

def SPost (K : PySem.W.Frag) (mg : Str → Option Value) (W : WX) (H0 : Bas) (G0 : Hp) (r : Out) (Z : Ends) : Prop := match r with
  | .nx e' => ∀ σ' H' G', StOk K H0 G0 σ' e' H' G' → Z.nx σ' H'
  | .bk e' => ∀ σ' H' G', StOk K H0 G0 σ' e' H' G' → Z.bk σ' H'
  | .ct e' => ∀ σ' H' G', StOk K H0 G0 σ' e' H' G' → Z.ct σ' H'
  | .rt d => ∀ v H' G', Ext H0.hp G0 H' G' → Rep K G' d v → Z.rt v H'
  | .ro d => ∀ a H' G', Ext H0.hp G0 H' G' → H0.hp a = none → G' a = none → OwnC K H' G' d a → Z.rt (.ref a) H'
  | .rm d e' => ∀ v σ' H' G', StOk K H0 G0 σ' e' H' G' → Rep K G' d v → Z.rt v H'
  | .ex c fs e' => ∀ cls o σ' H' G' H'', StOk K H0 G0 σ' e' H' G' → Sub H' H'' → IsExc K mg c fs cls o H' H'' → W cls o σ' H''
  | .bad => False
def tS (K : PySem.W.Frag) (mg : Str → Option Value) (W : WX) (H0 : Bas) (G0 : Hp) (f : Env → Out) : TS := fun Z σ H => ∃ e G, StOk K H0 G0 σ e H G ∧ SPost K mg W H0 G0 (f e) Z
abbrev DS (X : Cx) (W : WX) (H0 : Bas) (G0 : Hp) (st : Stmt) (f : Env → Out) : Prop := PS X st (tS X.K X.mg W H0 G0 f)
abbrev DSs (X : Cx) (W : WX) (H0 : Bas) (G0 : Hp) (st : List Stmt) (f : Env → Out) : Prop := PSs X st (tS X.K X.mg W H0 G0 f)

/-- a reckoning, then what follows -/
def sE {α : Type} (al : List Nat) (f : Env → Res α) (k : α → Env → Out) : Env → Out := fun e => match f e with
  | .ok a => k a (fz al e)
  | .exc c fs => .ex c fs (fz al e)
  | .bad => .bad
section
variable {X : Cx} {W : WX} {H0 : Bas} {G0 : Hp}
theorem sE_step {al : List Nat} {α : Type} {f : Env → Res α} {k : α → Env → Out} {σ : L2.St} {H : Hp} {Z : Ends} (h : tS X.K X.mg W H0 G0 (sE al f k) Z σ H) :
    LockT (fun H => ∃ e G, EnvG X.K (fun i => i ∈ al) σ e H G ∧ PostG X.K X.mg (fun c o H' => W c o σ H') H G (f e) fun a H' G' => StOk X.K H0 G0 σ (fz al e) H' G' ∧ SPost X.K X.mg W H0 G0 (k a (fz al e)) Z) H := by
  obtain ⟨e, G, S, p⟩ := h
  refine (S.exp al).imp fun H ⟨G1, GA, S1, E, nxt⟩ => ?_
  refine ⟨e, GA, E, ?_⟩
  unfold sE at p
  cases hr : f e with
  | ok a =>
    rw [hr] at p
    exact fun H' G' x => ⟨nxt H' G' x, p⟩
  | exc c fs =>
    rw [hr] at p
    exact fun cls o H' s ix => p cls o σ H GA H' (nxt H GA (Ext.refl E.sub)) s ix
  | bad =>
    rw [hr] at p
    exact p.elim

/-! ### the plain statements -/
variable {al : List Nat} {st : Stmt} {rest : List Stmt} {ex : Expr} {pos : Pos}
def sSkip : Env → Out := fun e => .nx e
def sSeq (f g : Env → Out) : Env → Out := fun e => match f e with
  | .nx e' => g e'
  | r => r
theorem dss_nil : DSs X W H0 G0 [] sSkip := pss_nil.imp fun Z σ H ⟨e, G, S, p⟩ => p σ H G S
theorem dss_cons {f g : Env → Out} (h1 : DS X W H0 G0 st f) (h2 : DSs X W H0 G0 rest g) : DSs X W H0 G0 (st :: rest) (sSeq f g) :=
  (pss_cons h1 h2).imp fun Z σ H ⟨e, G, S, p⟩ => ⟨e, G, S, by
    unfold sSeq at p
    cases hr : f e with
    | nx e' => rw [hr] at p; exact fun σ' H' G' S' => ⟨e', G', S', p⟩
    | rt d => rw [hr] at p; exact p
    | ro d => rw [hr] at p; exact p
    | rm d e' => rw [hr] at p; exact p
    | bk e' => rw [hr] at p; exact p
    | ct e' => rw [hr] at p; exact p
    | ex c fs e' => rw [hr] at p; exact p
    | bad => rw [hr] at p; exact p⟩
def sBreak : Env → Out := fun e => .bk e
def sCont : Env → Out := fun e => .ct e
def sRet (al : List Nat) (f : Env → Res D) : Env → Out := sE al f fun d _ => .rt d
theorem ds_ret {f : Env → Res D} (h : DE X W (fun i => i ∈ al) ex f) : DS X W H0 G0 (.Return (some ex) pos) (sRet al f) :=
  (ps_ret h).lk fun Z σ H hq => (sE_step hq).imp fun H ⟨e, G, E, p⟩ => by
    exact ⟨e, G, E, p.imp fun d H' G' x ⟨S, q⟩ v r => q v H' G' S.ext r⟩
/-- return x, x a list or dict of its own -/
def sRetO (i : Nat) : Env → Out := fun e => match e[i]? with
  | some (some (d, true)) => .ro d
  | some (some (d, false)) => .rt d
  | _ => .bad
/-- return of a new list or dict -/
def sRetF (al : List Nat) (f : Env → Res D) : Env → Out := sE al f fun d _ => .ro d
def sRetN : Env → Out := fun _ => .rt .non
def sIf (al : List Nat) (ft : Env → Res Bool) (f g : Env → Out) : Env → Out := sE al ft fun b e => if b = true then f e else g e
theorem ds_if {c : Expr} {a b : List Stmt} {ft : Env → Res Bool} {f g : Env → Out} (hc : DT X W (fun i => i ∈ al) c ft) (ha : DSs X W H0 G0 a f) (hb : DSs X W H0 G0 b g) : DS X W H0 G0 (.If c a b pos) (sIf al ft f g) :=
  (ps_if hc ha hb).lk fun Z σ H hq => (sE_step hq).imp fun H ⟨e, G, E, p⟩ => by
    refine ⟨e, G, E, p.imp fun k H' G' x ⟨S, q⟩ => ?_⟩
    cases k with
    | true => rw [if_pos rfl] at q ⊢; exact ⟨_, G', S, q⟩
    | false => rw [if_neg Bool.false_ne_true] at q ⊢; exact ⟨_, G', S, q⟩
def sDrop (al : List Nat) (f : Env → Res D) : Env → Out := sE al f fun _ e => .nx e
/-- x = e -/
def sSet (al : List Nat) (i : Nat) (f : Env → Res D) : Env → Out := sE al f fun d e => .nx (e.set i (some (d, false)))
theorem ds_set {i : Nat} {x : Str} {pos' : Pos} {f : Env → Res D} (hN : X.N.Nodup) (hi : X.N[i]? = some x) (hx : Loc X.env.scope x) (h : DE X W (fun i => i ∈ al) ex f) (hs : swapsWith ex (some (.Name x pos')) pos.line X.env = pure false := by rfl)
    (hf : X.fn x = true ∨ X.env.scope.names.lookup x = some .local := by first | exact .inl rfl | exact .inr rfl | assumption) : DS X W H0 G0 (.Assign [.Name x pos'] ex pos) (sSet al i f) :=
  (ps_set hN hi hx h hs hf).lk fun Z σ H hq => (sE_step hq).imp fun H ⟨e, G, E, p⟩ => by
    exact ⟨e, G, E, p.imp fun d H' G' _ ⟨S, q⟩ v r => q _ H' G' (S.set i r)⟩
/-- x = a new list or dict, to be changed -/
def sSetF (al : List Nat) (i : Nat) (f : Env → Res D) : Env → Out := sE al f fun d e => .nx (e.set i (some (d, true)))
theorem ds_setF {i : Nat} {x : Str} {pos' : Pos} {f : Env → Res D} (hN : X.N.Nodup) (hi : X.N[i]? = some x) (hx : Loc X.env.scope x) (h : DF X W (fun i => i ∈ al) ex f) (hs : swapsWith ex (some (.Name x pos')) pos.line X.env = pure false := by rfl)
    (hf : X.fn x = true ∨ X.env.scope.names.lookup x = some .local := by first | exact .inl rfl | exact .inr rfl | assumption) (hpin : H0.pin i = none := by rfl) : DS X W H0 G0 (.Assign [.Name x pos'] ex pos) (sSetF al i f) :=
  (ps_set hN hi hx h hs hf).lk fun Z σ H ⟨e, G, S, p⟩ => (S.exp al).imp fun H ⟨G1, GA, S1, E, nxt⟩ => by
    refine ⟨e, GA, E, ?_⟩
    unfold sSetF sE at p
    cases hr : f e with
    | ok d =>
      rw [hr] at p
      intro H' G' x a ha ga rc
      have S' := nxt H' G' x
      refine p _ H' G' (S'.setF i (Hb := H) S1.ext.hh (fun j d' b h1 h2 => ?_) ha ga rc hpin)
      have w1 := fz_fzD_own h1
      obtain ⟨a', q1, _, _, q4⟩ := S1.ow j d' w1
      rw [h2] at q1; cases q1
      exact q4.is
    | exc c fs =>
      rw [hr] at p
      exact fun cls o H' s ix => p cls o σ H GA H' (nxt H GA (Ext.refl E.sub)) s ix
    | bad => rw [hr] at p; exact p.elim

/-! ### a, b = e -/
inductive Pat where
  | nm (i : Nat)
  | tp (ps : List Pat)
mutual
def Pat.bind : Pat → D → Env → Res Env
  | .nm i, d, e => .ok (e.set i (some (d, false)))
  | .tp ps, d, e => match d with
    | .tup ds => Pat.binds ps ds e
    | _ => .bad
def Pat.binds : List Pat → List D → Env → Res Env
  | [], [], e => .ok e
  | p :: ps, d :: ds, e => (Pat.bind p d e).bind fun e' => Pat.binds ps ds e'
  | _, _, _ => .bad
end
mutual
def Pat.slots : Pat → List Nat
  | .nm i => [i]
  | .tp ps => Pat.slotss ps
def Pat.slotss : List Pat → List Nat
  | [] => []
  | p :: ps => Pat.slots p ++ Pat.slotss ps
end
/-- what stays where a name of these is stored -/
def Setable (K : PySem.W.Frag) (sl : List Nat) (R : L2.St → Env → Hp → Hp → Prop) : Prop := ∀ σ e H G i d v, i ∈ sl → R σ e H G → Rep K G d v → R (σ.set i (some v)) (e.set i (some (d, false))) H G
/-- a target's reading: it stores by the pattern -/
def DG (X : Cx) (tg : Expr) (p : Pat) : Prop :=
  ∃ g, PG X tg g ∧ ∀ (R : L2.St → Env → Hp → Hp → Prop), Setable X.K p.slots R → ∀ (v : V) (σ : L2.St) (H G : Hp) (d : D) (e e' : Env) (Q : L2.St → Hp → Prop), R σ e H G → Sub G H → Rep X.K G d v → p.bind d e = .ok e' → (∀ σ', R σ' e' H G → Q σ' H) → g v σ H Q
def DGs (X : Cx) (tgs : List Expr) (ps : List Pat) : Prop :=
  ∃ g, PGs X tgs g ∧ ∀ (R : L2.St → Env → Hp → Hp → Prop), Setable X.K (Pat.slotss ps) R → ∀ (vs : List V) (σ : L2.St) (H G : Hp) (ds : List D) (e e' : Env) (Q : L2.St → Hp → Prop), R σ e H G → Sub G H → RepL X.K G ds vs → Pat.binds ps ds e = .ok e' → (∀ σ', R σ' e' H G → Q σ' H) → g vs σ H Q
theorem dg_name {i : Nat} {x : Str} (hN : X.N.Nodup) (hi : X.N[i]? = some x) (hx : Loc X.env.scope x) (hf : X.fn x = true ∨ X.env.scope.names.lookup x = some .local := by first | exact .inl rfl | exact .inr rfl | assumption) : DG X (.Name x pos) (.nm i) :=
  ⟨_, pg_name hN hi hx hf, fun R hR v σ H G d e e' Q S sg r h q => by
    cases h
    exact q _ (hR σ e H G i d v (by simp [Pat.slots]) S r)⟩
theorem dgs_nil : DGs X [] [] := ⟨_, pgs_nil, fun R hR vs σ H G ds e e' Q S sg r h q => by
  cases ds with
  | nil => cases h; exact ⟨r, q σ S⟩
  | cons d ds => cases h⟩
theorem dgs_cons {tg : Expr} {tgs : List Expr} {p : Pat} {ps : List Pat} (h1 : DG X tg p) (h2 : DGs X tgs ps)
    (hs : (assignEach (tg :: tgs) X.env).map (·.2) = assign tg X.env :: (assignEach tgs X.env).map (·.2) := by rfl) : DGs X (tg :: tgs) (p :: ps) := by
  obtain ⟨g1, a1, b1⟩ := h1
  obtain ⟨g2, a2, b2⟩ := h2
  refine ⟨_, pgs_cons a1 a2 hs, fun R hR vs σ H G ds e e' Q S sg r h q => ?_⟩
  cases ds with
  | nil => cases h
  | cons d ds =>
    obtain ⟨v, vr, ev, r1, r2⟩ := r
    dsimp only [Pat.binds] at h
    cases hb : p.bind d e with
    | exc c fs => rw [hb] at h; cases h
    | bad => rw [hb] at h; cases h
    | ok e1 =>
      rw [hb] at h
      refine ⟨v, vr, ev, b1 R (fun σ e H G i d v hi => hR σ e H G i d v (by simp [Pat.slotss, hi])) v σ H G d e e1 _ S sg r1 hb fun σ' S' => ?_⟩
      exact b2 R (fun σ e H G i d v hi => hR σ e H G i d v (by simp [Pat.slotss, hi])) vr σ' H G ds e1 e' Q S' sg r2 h q
theorem binds_length : ∀ (ps : List Pat) (ds : List D) (e e' : Env), Pat.binds ps ds e = .ok e' → ds.length = ps.length := by
  intro ps
  induction ps with
  | nil => intro ds e e' h; cases ds with
    | nil => rfl
    | cons _ _ => cases h
  | cons p ps ih => intro ds e e' h; cases ds with
    | nil => cases h
    | cons d ds =>
      dsimp only [Pat.binds] at h
      cases hb : p.bind d e with
      | exc c fs => rw [hb] at h; cases h
      | bad => rw [hb] at h; cases h
      | ok e1 => rw [hb] at h; rw [List.length_cons, List.length_cons, ih ds e1 e' h]
theorem dg_tup {tgs : List Expr} {k : Nat} {ps : List Pat} {n : Nat} (hc : X.calm = true) (h : DGs X tgs ps) (hl : ps.length = n)
    (hn : (assignEach tgs X.env).length = n := by rfl) (hst : (assignEach tgs X.env).findIdx? (·.1) = none := by rfl) : DG X (.Tuple tgs k pos) (.tp ps) := by
  obtain ⟨g, a, b⟩ := h
  refine ⟨_, pg_tup hc a hn hst, fun R hR v σ H G d e e' Q S sg r h q => ?_⟩
  cases d with
  | tup ds =>
    obtain ⟨p, vs, ev, s, r⟩ := r
    have h : Pat.binds ps ds e = .ok e' := h
    exact ⟨p, vs, ev, sg.pt s, by rw [r.length, binds_length ps ds e e' h, hl], b R (fun σ e H G i d v hi => hR σ e H G i d v (by simpa [Pat.slots] using hi)) vs σ H G ds e e' Q S sg r h q⟩
  | _ => cases h
theorem st_setable {K : PySem.W.Frag} {sl : List Nat} : Setable K sl (StOk K H0 G0) := fun σ e H G i d v _ S r => S.set i r
def sAsg (al : List Nat) (p : Pat) (f : Env → Res D) : Env → Out := sE al f fun d e => match p.bind d e with
  | .ok e' => .nx e'
  | _ => .bad
/-! ### lists changed in place -/
/-- the list that the name i holds, to be changed -/
def ownL (i : Nat) (e : Env) (k : List D → Out) : Out := match e[i]? with
  | some (some (.lst xs, true)) => k xs
  | _ => .bad
theorem StOk.ownL {σ : L2.St} {e : Env} {H G : Hp} {K : PySem.W.Frag} (S : StOk K H0 G0 σ e H G) {i : Nat} {xs : List D} (h : e[i]? = some (some (.lst xs, true))) : ∃ a vs, σ[i]? = some (some (.ref a)) ∧ H a = some (.lst vs) ∧ RepL K G xs vs := by
  obtain ⟨a, q1, q2, q3, vs, e, r⟩ := S.ow i _ h
  exact ⟨a, vs, q1, e, r⟩
end
end DL

namespace DL
open PySem PySem.Spec PyProof.Rows L2
open PySem.Builtin.Int (intBits)
section
variable {X : Cx} {W : WX} {H0 : Bas} {G0 : Hp} {al : List Nat} {ex : Expr} {es : List Expr} {pos apos cpos p1 p2 : Pos}
/-- a method that changes its list -/
def MutL (X : Cx) (id : String) (g : List D → List D → Option (List D)) : Prop :=
  ∃ r, MtR X id r ∧ ∀ (G H : Hp) (a : Addr) (xs : List D) (vs : List V) (ds : List D) (ws : List V) (xs' : List D) (Q : Hp → Prop), Sub G H → H a = some (.lst vs) → RepL X.K G xs vs → RepL X.K G ds ws → g xs ds = some xs' →
    (∀ vs', RepL X.K G xs' vs' → Q (upd H a (.lst vs'))) → r (.ref a) ws H fun _ H' => Q H'
def sMut (al : List Nat) (i : Nat) (g : List D → List D → Option (List D)) (fs : Env → Res (List D)) : Env → Out := fun e => ownL i (fz al e) fun xs => sE al fs (fun ds e' => match g xs ds with
  | some xs' => .nx (e'.set i (some (.lst xs', true)))
  | none => .bad) e
theorem ownL_inv {i : Nat} {e : Env} {k : List D → Out} {Z : Ends} {K : PySem.W.Frag} {mg : Str → Option Value} (p : SPost K mg W H0 G0 (ownL i e k) Z) : ∃ xs, e[i]? = some (some (.lst xs, true)) ∧ SPost K mg W H0 G0 (k xs) Z := by
  unfold ownL at p
  split at p
  · rename_i xs h; exact ⟨xs, h, p⟩
  · exact p.elim
theorem ds_mut {i : Nat} {x name : Str} {id : String} {g : List D → List D → Option (List D)} {fs : Env → Res (List D)} (slot : Slot "list" name id) (hty : typeOf (.builtin id) = pure (.type "method_descriptor")) (hm : MutL X id g)
    (hN : X.N[i]? = some x) (hv : Vis X.env.scope x) (h : DA X W (fun i => i ∈ al) (ex :: es) fs)
    (hd : (x == ("__debug__" : Str)) = false := by decide) (hcd : (x == ("__classdict__" : Str)) = false := by decide)
    (hbase : attributeBase (.Name x p1) name X.env (eval (.Name x p1) X.env) = eval (.Name x p1) X.env := by rfl)
    (hfew : ((backTo cpos (starEach (ex :: es) X.env)).all (fun x => !x.1) && (backToKw cpos (keywordEach [] X.env)).all (fun x => x.1.isSome)
      && decide ((ex :: es).length + ([] : List Keyword).length + (if ([] : List Keyword).isEmpty then 0 else 1) < 30)) = true := by rfl)
    (hline : (apos.endLine == cpos.line) = true := by rfl) (hs : starEach (ex :: es) X.env = (false, eval ex X.env) :: starEach es X.env := by rfl) (hplain : (backTo cpos (starEach es X.env)).any (·.1) = false := by rfl)
    (hsw : swapsWith (.Call (.Attribute (.Name x p1) name apos) (ex :: es) [] cpos) none pos.line X.env = pure false := by rfl) :
    DS X W H0 G0 (.Expr (.Call (.Attribute (.Name x p1) name apos) (ex :: es) [] cpos) pos) (sMut al i g fs) := by
  obtain ⟨r, m1, m2⟩ := hm
  refine (ps_expr (pe_bm PySem.F.plainAttrs_list slot hty m1 (pe_var hN hv hd hcd) h hbase hfew hline hs hplain) hsw).lk fun Z σ H ⟨e, G, S, p⟩ => (S.exp al).imp fun H ⟨G1, GA, S0, E, nxt⟩ => ?_
  have S1 := nxt H GA (Ext.refl E.sub)
  obtain ⟨xs, hx, p⟩ := ownL_inv p
  obtain ⟨a, vs, q1, q2, q3⟩ := S1.ownL hx
  refine ⟨.ref a, q1, .inl ⟨rfl, vs, SqL.of q2⟩, e, GA, E, ?_⟩
  unfold sE at p
  cases hr : fs e with
  | exc c fs' =>
    rw [hr] at p
    exact fun cls o H' s ix => p cls o σ H GA H' S1 s ix
  | bad => rw [hr] at p; exact p.elim
  | ok ds =>
    rw [hr] at p
    intro H' G' x ws rw
    have S2 := nxt H' G' x
    cases hg : g xs ds with
    | none => simp only [hg] at p; exact p.elim
    | some xs' =>
      simp only [hg] at p
      exact m2 G' H' a xs vs ds ws xs' (fun H3 => Z.nx σ H3) x.gh (x.hh _ _ q2) (q3.mono x.gg) rw hg fun vs' r' => p σ _ G' (S2.change hx q1 ⟨vs', upd_same, r'⟩)
def gAppend : List D → List D → Option (List D) := fun xs ds => match ds with
  | [d] => if xs.length < sizeLine then some (xs ++ [d]) else none
  | _ => none
theorem mut_append : MutL X "list.append" gAppend := by
  refine ⟨_, mt_append, fun G H a xs vs ds ws xs' Q sg ha r1 r2 hg q => ?_⟩
  match ds, hg with
  | [d], hg =>
    obtain ⟨w, _, rfl, rw, e⟩ := r2
    have e : _ = [] := e
    subst e
    dsimp only [gAppend] at hg
    by_cases hc : xs.length < sizeLine
    · rw [if_pos hc] at hg
      cases hg
      exact ⟨a, vs, w, rfl, rfl, ha, by rw [r1.length]; exact hc, q _ (r1.append (.cons rw .nil))⟩
    · rw [if_neg hc] at hg; cases hg
/-- xs[i] = v -/
def sPutL (al : List Nat) (i : Nat) (fk fv : Env → Res D) : Env → Out := fun e => ownL i (fz al e) fun xs => sE al (fun e => (fv e).bind fun v => (fk e).bind fun k => .ok (k, v)) (fun kv e' => match kv.1 with
  | .int k => match ixN xs.length k with
    | some j => .nx (e'.set i (some (.lst (xs.set j kv.2), true)))
    | none => .bad
  | _ => .bad) e
theorem ds_putL {i : Nat} {x : Str} {ik ev : Expr} {fk fv : Env → Res D} (hN : X.N[i]? = some x) (hv : Vis X.env.scope x) (hk : DE X W (fun i => i ∈ al) ik fk) (he : DE X W (fun i => i ∈ al) ev fv)
    (hd : (x == ("__debug__" : Str)) = false := by decide) (hcd : (x == ("__classdict__" : Str)) = false := by decide)
    (ha : ∀ v, assign (.Subscript (.Name x p1) ik p2) X.env v = (do
      let ov ← holding [v] (eval (.Name x p1) X.env)
      let iv ← holding [v, ov] (eval ik X.env)
      standAt p2
      holding [v, ov, iv] (setItem ov iv v)
      release [v, ov, iv] []) := by intro _; rfl)
    (hs : swapsWithSole [.Subscript (.Name x p1) ik p2] ev pos.line X.env = pure false := by rfl) (hw : swappedStores [.Subscript (.Name x p1) ik p2] ev X.env = pure none := by rfl)
    (h1 : (assignEach [.Subscript (.Name x p1) ik p2] X.env).map (·.2) = [assign (.Subscript (.Name x p1) ik p2) X.env] := by rfl) :
    DS X W H0 G0 (.Assign [.Subscript (.Name x p1) ik p2] ev pos) (sPutL al i fk fv) := by
  refine (ps_asg he (pg_sub (pe_var hN hv hd hcd) hk set_list ha) hs hw h1).lk fun Z σ H ⟨e, G, S, p⟩ => (S.exp al).imp fun H ⟨G1, GA, S0, E, nxt⟩ => ?_
  have S1 := nxt H GA (Ext.refl E.sub)
  obtain ⟨xs, hx, p⟩ := ownL_inv p
  obtain ⟨a, vs, q1, q2, q3⟩ := S1.ownL hx
  unfold sE at p
  dsimp only at p
  refine ⟨e, GA, E, ?_⟩
  cases hr : fv e with
  | exc c fs' =>
    rw [hr] at p
    exact fun cls o H' s ix => p cls o σ H GA H' S1 s ix
  | bad => rw [hr] at p; exact p.elim
  | ok dv =>
    rw [hr] at p
    intro H1 G1 x1 v rv
    refine ⟨.ref a, q1, e, G1, E.ext x1, ?_⟩
    cases hr2 : fk e with
    | exc c fs' =>
      simp only [Res.bind_ok, hr2] at p
      exact fun cls o H' s ix => p cls o σ H1 G1 H' (nxt H1 G1 x1) s ix
    | bad => simp only [Res.bind_ok, hr2] at p; exact p.elim
    | ok dk =>
      simp only [Res.bind_ok, hr2] at p
      intro H2 G2 x2 k rk
      have S2 := nxt H2 G2 (x1.trans x2)
      cases dk with
      | int n =>
        simp only [] at p
        cases hj : ixN xs.length n with
        | none => simp only [hj] at p; exact p.elim
        | some j =>
          simp only [hj] at p
          have xx := x1.trans x2
          refine ⟨a, vs, n, j, rfl, rk, xx.hh _ _ q2, by rw [q3.length]; exact hj, ?_⟩
          exact p σ _ G2 (S2.change hx q1 ⟨_, upd_same, (q3.mono xx.gg).set (rv.mono x2.gg) j⟩)
      | _ => exact (show False from p).elim

/-! ### what a loop walks -/
/-- J yields ds; what is walked is read in B, its items in G -/
structure WalkOf (K : PySem.W.Frag) (J : It) (ds : List D) (B G : Hp) : Prop where
  go : ∀ H i, Sub B H → i < ds.length → J.go i H
  stop : ∀ H, Sub B H → J.stop ds.length H
  yld : ∀ H G2 i x H', Sub B H → Sub G G2 → Sub G2 H → i < ds.length → J.yld i H x H' → ∃ d G', ds[i]? = some d ∧ Ext H G2 H' G' ∧ Rep K G' d x
def tI (K : PySem.W.Frag) (mg : Str → Option Value) (W : WX) (A : Nat → Prop) (f : Env → Res (List D)) : TI := fun σ H R => ∃ e G, EnvG K A σ e H G ∧ PostG K mg (fun c o H' => W c o σ H') H G (f e) fun ds H' G' => ∀ J, WalkOf K J ds G' G' → R J H'
def tIR (K : PySem.W.Frag) (mg : Str → Option Value) (W : WX) (A : Nat → Prop) (f : Env → Res (List D)) : TI := fun σ H R => ∃ e G, EnvG K A σ e H G ∧ PostG K mg (fun c o H' => W c o σ H') H G (f e) fun ds H' G' => ∀ J, WalkOf K J ds H' G' → R J H'
abbrev DI (X : Cx) (W : WX) (A : Nat → Prop) (tg ex : Expr) (f : Env → Res (List D)) : Prop := PI X tg ex (tI X.K X.mg W A f)
abbrev DIR (X : Cx) (W : WX) (A : Nat → Prop) (tg ex : Expr) (f : Env → Res (List D)) : Prop := PI X tg ex (tIR X.K X.mg W A f)
theorem walk_list {K : PySem.W.Frag} {B G : Hp} {a : Addr} {ds : List D} {vs : List V} (s : SqL K B a vs) (r : RepL K G ds vs) : WalkOf K (Itl K a) ds B G where
  go := fun H i h hi => by
    have hl : i < vs.length := by rw [r.length]; exact hi
    exact ⟨vs, vs[i], h.sql s, by simp [hl]⟩
  stop := fun H h => ⟨vs, h.sql s, by rw [r.length]; exact Nat.le_refl _⟩
  yld := fun H G2 i x H' h g g2 hi y => by
    obtain ⟨e, y⟩ := y
    subst e
    obtain ⟨d, h1, h2⟩ := r.get' (y vs (h.sql s))
    exact ⟨d, G2, h1, Ext.refl g2, h2.mono g⟩
theorem walk_tup {K : PySem.W.Frag} {B G : Hp} {a : Addr} {ds : List D} {vs : List V} (s : SqT K B a vs) (r : RepL K G ds vs) : WalkOf K (Itt K a) ds B G where
  go := fun H i h hi => by
    have hl : i < vs.length := by rw [r.length]; exact hi
    exact ⟨vs, vs[i], h.sqt s, by simp [hl]⟩
  stop := fun H h => ⟨vs, h.sqt s, by rw [r.length]; exact Nat.le_refl _⟩
  yld := fun H G2 i x H' h g g2 hi y => by
    obtain ⟨e, y⟩ := y
    subst e
    obtain ⟨d, h1, h2⟩ := r.get' (y vs (h.sqt s))
    exact ⟨d, G2, h1, Ext.refl g2, h2.mono g⟩
theorem walk_range {K : PySem.W.Frag} {B G : Hp} (lo : Int) (n : Nat) : WalkOf K (Itr lo n) ((List.range n).map fun i => D.int (lo + (i : Nat))) B G where
  go := fun H i h hi => by
    show i < n
    simpa using hi
  stop := fun H h => by
    show n ≤ _
    simp
  yld := fun H G2 i x H' h g g2 hi y => by
    obtain ⟨e, y⟩ := y
    subst e
    have hi' : i < n := by simpa using hi
    exact ⟨.int (lo + i), G2, by simp [hi'], Ext.refl g2, y⟩
/-- over a list or tuple -/
def iSeq (f : Env → Res D) : Env → Res (List D) := fun e => (f e).bind fun d => match d with
  | .lst xs => .ok xs
  | .tup xs => .ok xs
  | .con xs => .ok xs
  | _ => .bad
/-- what is walked: a list or a tuple -/
def iSq (K : PySem.W.Frag) (te : TE) : TI := fun σ H R => te σ H fun x H1 => ∃ a, x = .ref a ∧ (((∃ xs, SqL K H1 a xs) ∧ R (Itl K a) H1) ∨ ((∃ xs, SqT K H1 a xs) ∧ R (Itt K a) H1))
theorem pi_sq {tg l : Expr} {tl : TE} (hl : PE X l tl) : PI X tg l (iSq X.K tl) := by
  refine ⟨fun pins s σ H R I h => ?_⟩
  refine thn (hl.run pins s σ H _ I h) fun v s1 ⟨x, H1, I1, r1, q1⟩ => ?_
  obtain ⟨a, e, q⟩ := q1
  subst e
  cases r1
  rcases q with ⟨⟨xs, hq⟩, q⟩ | ⟨⟨xs, hq⟩, q⟩
  · obtain ⟨its, rv, p, hz⟩ := I1.list hq
    refine wpAny_pyIter_list p.isList ?_
    refine ⟨s1.heap.objs.size, [s1.heap.objs.size], _, _, H1, rfl, I1.kept (t' := s1.toks) fun b o e => Heap.get?_push_of_some _ e, turn_list a _, ⟨_, Heap.get?_push_size _ rfl, rfl, rfl⟩, fun b hb => ?_, q⟩
    have e : b = s1.heap.objs.size := by simpa using hb
    subst e
    exact I1.fpOk (Nat.le_refl _) (I1.hok.fresh (Nat.le_refl _))
  · obtain ⟨its, rv, p, hz⟩ := I1.tuple hq
    refine wpAny_pyIter_tuple (show s1.heap.IsTuple a its.toArray from p) ?_
    refine ⟨s1.heap.objs.size, [s1.heap.objs.size], _, _, H1, rfl, I1.kept (t' := s1.toks) fun b o e => Heap.get?_push_of_some _ e, turn_tuple a _, ⟨_, Heap.get?_push_size _ rfl, rfl, rfl⟩, fun b hb => ?_, q⟩
    have e : b = s1.heap.objs.size := by simpa using hb
    subst e
    exact I1.fpOk (Nat.le_refl _) (I1.hok.fresh (Nat.le_refl _))
variable {A : Nat → Prop}
theorem di_seq {tg : Expr} {f : Env → Res D} (h : DE X W A ex f) : DI X W A tg ex (iSeq f) :=
  (pi_sq h).imp fun σ H Q ⟨e, G, E, p⟩ => ⟨e, G, E, p.split.imp fun d H1 G1 x1 p1 v rv => by
    cases d with
    | lst xs =>
      obtain ⟨a, vs, rfl, s, r⟩ := rv
      exact ⟨a, rfl, .inl ⟨⟨vs, x1.gh.sql s⟩, PostG.here (a := xs) p1 x1.gh _ (walk_list s r)⟩⟩
    | tup xs =>
      obtain ⟨a, vs, rfl, s, r⟩ := rv
      exact ⟨a, rfl, .inr ⟨⟨vs, x1.gh.pt s⟩, PostG.here (a := xs) p1 x1.gh _ (walk_tup (SqT.of s) r)⟩⟩
    | con xs =>
      obtain ⟨a, vs, rfl, s, r⟩ := rv
      exact ⟨a, rfl, .inr ⟨⟨vs, x1.gh.sqt s.sqt⟩, PostG.here (a := xs) p1 x1.gh _ (walk_tup s.sqt r)⟩⟩
    | _ => exact (show False from p1).elim⟩
theorem WalkOf.low {K : PySem.W.Frag} {J : It} {ds : List D} {B B' G : Hp} (h : WalkOf K J ds B G) (s : Sub B B') : WalkOf K J ds B' G :=
  ⟨fun H i z => h.go H i (s.trans z), fun H z => h.stop H (s.trans z), fun H G2 i x H' z => h.yld H G2 i x H' (s.trans z)⟩
theorem dir_of {tg : Expr} {f : Env → Res (List D)} (h : DI X W A tg ex f) : DIR X W A tg ex f :=
  h.imp fun σ H Q ⟨e, G, E, p⟩ => ⟨e, G, E, p.imp fun ds H1 G1 x1 q J w => q J (w.low x1.gh)⟩
/-! ranges -/
def rangeD (lo hi : Int) : List D := (List.range (hi - lo).toNat).map fun i => D.int (lo + (i : Nat))
def iRange1 (f : Env → Res D) : Env → Res (List D) := fun e => (f e).bind fun d => match d with
  | .int n => if -(2 ^ 62) ≤ n ∧ n < 2 ^ 62 then .ok (rangeD 0 n) else .bad
  | _ => .bad
def iRange2 (f g : Env → Res D) : Env → Res (List D) := fun e => (f e).bind fun d => (g e).bind fun d2 => match d, d2 with
  | .int m, .int n => if -(2 ^ 62) ≤ m ∧ m < 2 ^ 62 ∧ -(2 ^ 62) ≤ n ∧ n < 2 ^ 62 then .ok (rangeD m n) else .bad
  | _, _ => .bad
theorem di_range1 {tg a : Expr} {p : Pos} {f : Env → Res D} (hg : Gl X "range") (hm : X.mg "range" = none) (ha : DE X W A a f) (hs : starEach [a] X.env = [(false, eval a X.env)] := by rfl) : DI X W A tg (.Call (.Name "range" p) [a] [] pos) (iRange1 f) :=
  (pi_range1 hg hm (pa_cons ha pa_nil hs) hs).imp fun σ H Q ⟨e, G, E, p⟩ => ⟨e, G, E, p.split.imp fun d H1 G1 x1 p1 v rv => by
    cases d with
    | int n =>
      have ev : v = .int n := rv
      subst ev
      dsimp only at p1
      by_cases hc : -(2 ^ 62) ≤ n ∧ n < 2 ^ 62
      · rw [if_pos hc] at p1
        refine ⟨n, rfl, hc.1, hc.2, p1.here x1.gh _ ?_⟩
        have : rangeD 0 n = (List.range n.toNat).map fun i => D.int (0 + (i : Nat)) := by unfold rangeD; rw [Int.sub_zero]
        rw [this]
        exact walk_range 0 n.toNat
      · rw [if_neg hc] at p1; exact p1.elim
    | _ => exact (show False from p1).elim⟩
/-! ### for -/
theorem StOk.step {K : PySem.W.Frag} {σ : L2.St} {e : Env} {H G H' G' : Hp} (S2 : StOk K H0 G0 σ e H G) (x3 : Ext H G H' G') : StOk K H0 G0 σ e H' G' := by
  refine ⟨S2.ext.trans x3, S2.len, fun j d' h => ?_, fun j d' h => ?_, S2.ne, S2.pn⟩
  · obtain ⟨v, w1, w2⟩ := S2.sh j d' h
    exact ⟨v, w1, w2.mono x3.gg⟩
  · obtain ⟨a, w1, w2, w3, w4⟩ := S2.ow j d' h
    refine ⟨a, w1, w2, ?_, w4.mono x3.hh x3.gg⟩
    cases hga : G' a with
    | none => rfl
    | some u =>
      rcases x3.new a (by rw [hga]; simp) with z | z
      · exact absurd w3 z
      · exact absurd z w4.nfr
theorem Ext.down {H G1 H1 G G' H' : Hp} (x : Ext H G H' G') (y : Ext H G1 H1 G) : Ext H G1 H' G' :=
  ⟨x.hh, y.gg.trans x.gg, x.gh, fun b z => by
    rcases x.new b z with z | z
    · exact y.new b z
    · exact .inr z⟩
theorem StOk.down {K : PySem.W.Frag} {σ : L2.St} {e : Env} {H G H1 G1 : Hp} (S : StOk K H0 G1 σ e H G) (y : Ext H0.hp G0 H1 G1) : StOk K H0 G0 σ e H G := ⟨S.ext.down y, S.len, S.sh, S.ow, S.ne, S.pn⟩
theorem StOk.up {K : PySem.W.Frag} {σ : L2.St} {e : Env} {H G G1 : Hp} (S : StOk K H0 G0 σ e H G) (s : Sub G1 G) (h : ∀ b, G b ≠ none → G1 b ≠ none ∨ Fr1 H0.hp b := by exact fun b z => .inl z) : StOk K H0 G1 σ e H G := ⟨⟨S.ext.hh, s, S.ext.gh, h⟩, S.len, S.sh, S.ow, S.ne, S.pn⟩
/-- the turns -/
def turns (p : Pat) (body : Env → Out) : List D → Env → Out
  | [], e => .nx e
  | d :: ds, e => match p.bind d e with
    | .ok e1 => match body e1 with
      | .nx e2 => turns p body ds e2
      | .ct e2 => turns p body ds e2
      | .bk e2 => .nx e2
      | .rt d => .rt d
      | .ro d => .ro d
      | .rm d e2 => .rm d e2
      | .ex c fs e2 => .ex c fs e2
      | .bad => .bad
    | _ => .bad
def sFor (al : List Nat) (p : Pat) (fi : Env → Res (List D)) (body : Env → Out) : Env → Out := sE al fi fun ds e => turns p body ds e
theorem ds_for {tg iter : Expr} {body : List Stmt} {p : Pat} {fi : Env → Res (List D)} {fb : Env → Out} (hp : PassesOwn (model X.prog X.w) X.A X.env X.xe) (hc : X.calm = true) (hi : DI X W (fun i => i ∈ al) tg iter fi) (hg : DG X tg p) (hb : ∀ G1, DSs X W H0 G1 body fb)
    (hs : ∀ x, foldedSetIterable iter X.env x = pure x := by intro _; rfl) : DS X W H0 G0 (.For tg iter body [] pos) (sFor al p fi fb) := by
  obtain ⟨g, g1, g2⟩ := hg
  -- the body's reading, whatever stays through it
  have hb' : PSs X body fun Z σ H => ∃ G1, tS X.K X.mg W H0 G1 fb Z σ H := ⟨fun pins s σ H D I ⟨G1, q⟩ => (hb G1).run pins s σ H D I q⟩
  refine (ps_for hp hc hi g1 hb' hs).lk fun Z σ H hq => (sE_step hq).imp fun H ⟨e, G, E, p1⟩ => ?_
  refine ⟨e, G, E, p1.imp fun ds H1 G1 x1 ⟨S1, q1⟩ J w => ?_⟩
  -- what holds between the turns
  refine ⟨fun i m σ2 H2 => m = ds.length - i ∧ i ≤ ds.length ∧ ∃ e2 G2, StOk X.K H0 G0 σ2 e2 H2 G2 ∧ Sub G1 G2 ∧ SPost X.K X.mg W H0 G0 (turns p fb (ds.drop i) e2) Z,
    ⟨ds.length, rfl, Nat.zero_le _, fz al e, G1, S1, Sub.refl _, q1⟩, ?_⟩
  rintro i m σ2 H2 ⟨rfl, hi, e2, G2, S2, g12, q2⟩
  by_cases hlt : i < ds.length
  · refine .inr ⟨w.go H2 i (g12.trans S2.ext.gh) hlt, fun σ3 H3 => ∃ e3 G3, StOk X.K H0 G0 σ3 e3 H3 G3 ∧ Sub G1 G3 ∧ SPost X.K X.mg W H0 G0 (turns p fb (ds.drop (i + 1)) e3) Z, ?_, ?_⟩
    · rintro σ3 H3 ⟨e3, G3, S3, g13, q3⟩
      exact ⟨ds.length - (i + 1), by omega, rfl, hlt, e3, G3, S3, g13, q3⟩
    · intro x H3 y
      obtain ⟨d, G3, hd, x3, rd⟩ := w.yld H2 G2 i x H3 (g12.trans S2.ext.gh) g12 S2.ext.gh hlt y
      have S3 : StOk X.K H0 G0 σ2 e2 H3 G3 := S2.step x3
      have e0 : ds.drop i = d :: ds.drop (i + 1) := by
        rw [List.drop_eq_getElem_cons hlt]
        have : ds[i] = d := by
          have := List.getElem?_eq_getElem hlt
          rw [hd] at this
          exact (Option.some.inj this).symm
        rw [this]
      rw [e0] at q2
      dsimp only [turns] at q2
      cases hb : p.bind d e2 with
      | exc c fs => rw [hb] at q2; exact q2.elim
      | bad => rw [hb] at q2; exact q2.elim
      | ok e3 =>
        rw [hb] at q2
        dsimp only at q2
        refine g2 _ st_setable x σ2 H3 G3 d e2 e3 _ S3 S3.ext.gh rd hb fun σ4 S4 => ⟨G3, e3, G3, S4.up (Sub.refl _), ?_⟩
        have g14 : Sub G1 G3 := g12.trans x3.gg
        cases hr : fb e3 with
        | nx e4 =>
          rw [hr] at q2
          exact fun σ5 H5 G5 S5 => ⟨e4, G5, S5.down S4.ext, g14.trans S5.ext.gg, q2⟩
        | ct e4 =>
          rw [hr] at q2
          exact fun σ5 H5 G5 S5 => ⟨e4, G5, S5.down S4.ext, g14.trans S5.ext.gg, q2⟩
        | bk e4 => rw [hr] at q2; exact fun σ5 H5 G5 S5 => q2 σ5 H5 G5 (S5.down S4.ext)
        | rt d => rw [hr] at q2; exact fun v H5 G5 x5 => q2 v H5 G5 (x5.down S4.ext)
        | ro d => rw [hr] at q2; exact fun a H5 G5 x5 => q2 a H5 G5 (x5.down S4.ext)
        | rm d e4 => rw [hr] at q2; exact fun v σ5 H5 G5 S5 => q2 v σ5 H5 G5 (S5.down S4.ext)
        | ex c fs e4 => rw [hr] at q2; exact fun cls o σ5 H5 G5 H6 S5 => q2 cls o σ5 H5 G5 H6 (S5.down S4.ext)
        | bad => rw [hr] at q2; exact q2.elim
  · have ei : i = ds.length := by omega
    subst ei
    refine .inl ⟨w.stop H2 (g12.trans S2.ext.gh), ?_⟩
    rw [List.drop_length] at q2
    exact q2 σ2 H2 G2 S2
end
end DL

namespace DL
open PySem PySem.Spec PyProof.Rows L2
open PySem.Builtin.Int (intBits)

/-! ### while -/
section
variable {X : Cx} {W : WX} {H0 : Bas} {G0 : Hp} {al : List Nat} {ex : Expr} {es : List Expr} {pos apos cpos p1 p2 : Pos}
/-! ### calls of defs -/
/-- what a def of so many parameters promises: what F says -/
def spD (K : PySem.W.Frag) (mg : Str → Option Value) (n : Nat) (F : List D → Res D) : Sp := fun vs H Q E => vs.length = n ∧ ∃ ds G, Sub G H ∧ RepL K G ds vs ∧ PostG K mg E H G (F ds) fun d H' G' => ∀ v, Rep K G' d v → Q v H'
structure CallOk (P : Program) (w : World) (K : PySem.W.Frag) (mg : Str → Option Value) (base : Heap) (k : Nat) (x : Str) (ps : List Str) (F : List D → Res D) : Prop where
  ok : ∃ f fd, mg x = some (.ref f) ∧ PySem.W.keepIn K (.ref f) = true ∧ Binds K fd ps [] ∧ FnOk P w K mg base (L2.CX P w) k f fd ps (spD K mg ps.length F)
def eCall (F : List D → Res D) (fs : Env → Res (List D)) : Env → Res D := fun e => (fs e).bind F
theorem de_call {A : Nat → Prop} {x : Str} {p : Pos} {k : Nat} {ps : List Str} {F : List D → Res D} {fs : Env → Res (List D)} (c : CallOk X.prog X.w X.K X.mg X.base k x ps F) (hr : Room k X.A) (hg : Gl X x) (tk : Takes X W) (ha : DA X W A (ex :: es) fs) (hl : LenIs fs ps.length) (hl2 : ∀ e ds, fs e = .ok ds → ps.length ≤ ds.length)
    (hdb : (x == ("__debug__" : Str)) = false := by decide) (he : starEach (ex :: es) X.env = (false, eval ex X.env) :: starEach es X.env := by rfl) (hpl : (backTo pos (starEach es X.env)).any (·.1) = false := by rfl) :
    DE X W A (.Call (.Name x p) (ex :: es) [] pos) (eCall F fs) := by
  obtain ⟨f, fd, hm, hk, hb, hF⟩ := c.ok
  refine (pe_callS hF hr hg hm hk hb (fun σ => passAt tk σ) ha hdb he hpl).imp fun σ H Q ⟨e, G, E, p⟩ => ⟨e, G, E, p.split.ifok fun ds H1 G1 hk x1 p1 vs rs => ?_⟩
  exact ⟨by rw [rs.length]; exact Nat.le_antisymm (hl e ds hk) (hl2 e ds hk), ds, G1, x1.gh, rs, p1⟩
/-- .. exactly so long -/
def LenEq (fs : Env → Res (List D)) (n : Nat) : Prop := ∀ e ds, fs e = .ok ds → ds.length = n
theorem leq_nil : LenEq aNil 0 := fun e ds h => by cases h; rfl
theorem leq_cons {f : Env → Res D} {fs : Env → Res (List D)} {n : Nat} (h : LenEq fs n) : LenEq (aCons f fs) (n + 1) := fun e ds q => by
  unfold aCons at q
  cases hf : f e with
  | ok d =>
    rw [hf] at q
    cases hs : fs e with
    | ok es => rw [hs] at q; cases q; exact congrArg (· + 1) (h e es hs)
    | exc c x => rw [hs] at q; cases q
    | bad => rw [hs] at q; cases q
  | exc c x => rw [hf] at q; cases q
  | bad => rw [hf] at q; cases q
theorem de_callE {A : Nat → Prop} {x : Str} {p : Pos} {k : Nat} {ps : List Str} {F : List D → Res D} {fs : Env → Res (List D)} (c : CallOk X.prog X.w X.K X.mg X.base k x ps F) (hr : Room k X.A) (hg : Gl X x) (tk : Takes X W) (ha : DA X W A (ex :: es) fs) (hl : LenEq fs ps.length)
    (hdb : (x == ("__debug__" : Str)) = false := by decide) (he : starEach (ex :: es) X.env = (false, eval ex X.env) :: starEach es X.env := by rfl) (hpl : (backTo pos (starEach es X.env)).any (·.1) = false := by rfl) :
    DE X W A (.Call (.Name x p) (ex :: es) [] pos) (eCall F fs) := de_call c hr hg tk ha (fun e ds h => Nat.le_of_eq (hl e ds h)) (fun e ds h => Nat.le_of_eq (hl e ds h).symm) hdb he hpl

/-! ### a def keeps its promise -/
def env0 (n m : Nat) (ds : List D) : Env := ds.map (fun d => some (d, false)) ++ List.replicate (m - n) none
def runDef (n m : Nat) (fb : Env → Out) : List D → Res D := fun ds => match fb (env0 n m ds) with
  | .rt d => .ok d
  | .ro d => .ok d
  | .rm d _ => .ok d
  | .nx _ => .ok .non
  | .ex c fs _ => .exc c fs
  | _ => .bad
abbrev wE (E : XK) : WX := fun cls o _ H => E cls o H
theorem fnD {P : Program} {w : World} {K : PySem.W.Frag} {mg : Str → Option Value} {base : Heap} {x qual : Str} {st : Stmt} {f : Addr} {fd : FuncData} {N ps : List Str} {k : Nat} {fb : Env → Out} (F : Fun K x qual st f fd) (S : FnScope N ps (defScope st))
    (hbody : ∀ (cdv : Value) (A : Around) (outer : List PySem.Env) (s : Shared) (H G : Hp) (E : XK), Room k (A.deeper (envOfC qual (defScope st) s.heap.objs.size f cdv)) →
      Takes (cxOf (L2.CX P w) P w K mg base N qual (defScope st) f cdv A outer s H E) (wE E) → PassesOwn (model P w) (A.deeper (envOfC qual (defScope st) s.heap.objs.size f cdv)) (envOfC qual (defScope st) s.heap.objs.size f cdv) (cxOf (L2.CX P w) P w K mg base N qual (defScope st) f cdv A outer s H E).xe →
      DSs (cxOf (L2.CX P w) P w K mg base N qual (defScope st) f cdv A outer s H E) (wE E) (Bas.of H) G (defBody st) fb) :
    FnOk P w K mg base (L2.CX P w) (k + 1) f fd ps (spD K mg ps.length (runDef ps.length N.length fb)) := by
  refine F.okX S (fun vs H Q E h => h.1) fun cdv A outer s H vs Q E hr h => ?_
  obtain ⟨hl, ds, G, sg, r, p⟩ := h
  refine ⟨_, (hbody cdv A outer s H G E hr (takes_of rfl rfl rfl rfl) (passes_of rfl)).lkR (fun D σ H q => q), ?_⟩
  show tS _ _ _ _ _ _ _ _ _
  refine ⟨env0 ps.length N.length ds, G, ?_, ?_⟩
  · have hps : ps.length ≤ N.length := by have := congrArg List.length S.pre; rw [List.length_take] at this; omega
    have hdl := r.length
    have get : ∀ (i : Nat) (d : D) (o : Bool), (env0 ps.length N.length ds)[i]? = some (some (d, o)) → o = false ∧ ds[i]? = some d := fun i d o h => by
      unfold env0 at h
      by_cases hi : i < ds.length
      · rw [List.getElem?_append_left (by simpa using hi), List.getElem?_map] at h
        cases q : ds[i]? with
        | none => rw [q] at h; cases h
        | some d' => rw [q] at h; cases h; exact ⟨rfl, rfl⟩
      · rw [List.getElem?_append_right (by simpa using hi), List.getElem?_replicate] at h
        split at h <;> cases h
    refine ⟨⟨Sub.refl _, Sub.refl _, sg, fun b z => .inl z⟩, ?_, fun i d h => ?_, fun i d h => ?_, fun i j d d' a h => ?_, fun i a d h => by cases h⟩
    · unfold L2.start env0
      simp only [List.length_append, List.length_map, List.length_replicate]
      omega
    · obtain ⟨_, h2⟩ := get i d false h
      obtain ⟨v, h3, h4⟩ := r.get h2
      refine ⟨v, ?_, h4⟩
      have hi : i < vs.length := (List.getElem?_eq_some_iff.mp h3).1
      unfold L2.start
      rw [List.getElem?_append_left (by simpa using hi), List.getElem?_map, h3]
      rfl
    · exact absurd (get i d true h).1 (by simp)
    · exact absurd (get i d true h).1 (by simp)
  · unfold runDef at p
    cases hr : fb (env0 ps.length N.length ds) with
    | rt d =>
      rw [hr] at p
      exact fun v H' G' x r => .here (p H' G' x v r)
    | ro d =>
      rw [hr] at p
      intro a H' G' x ha ga rc
      exact (own_lock x ha ga rc).imp fun H2 ⟨G2, y, r⟩ => p H2 G2 y _ r
    | nx e' =>
      rw [hr] at p
      exact fun σ' H' G' S' => p H' G' S'.ext .non rfl
    | ex c fs e' =>
      rw [hr] at p
      exact fun cls o σ' H' G' H2 S' s2 ix => p cls o H2 (S'.ext.hh.trans s2) (ix.back S'.ext.hh)
    | rm d e' =>
      rw [hr] at p
      exact fun v σ' H' G' S' r => .here (p H' G' S'.ext v r)
    | bk e' => rw [hr] at p; exact p.elim
    | ct e' => rw [hr] at p; exact p.elim
    | bad => rw [hr] at p; exact p.elim
end
end DL

namespace DL
open PySem PySem.Spec PyProof.Rows L2
open PySem.Builtin.Int (intBits)

/-! ### comprehensions -/
def wipeE (e : Env) : List Nat → Env
  | [] => e
  | v :: vs => (wipeE e vs).set v none
theorem wipeE_length (e : Env) : ∀ vs : List Nat, (wipeE e vs).length = e.length
  | [] => rfl
  | v :: vs => by unfold wipeE; rw [List.length_set, wipeE_length e vs]
theorem wipe_other {σ : L2.St} {i : Nat} : ∀ {vs : List Nat}, i ∉ vs → (wipe σ vs)[i]? = σ[i]?
  | [], _ => rfl
  | v :: vs, h => by
    unfold wipe
    rw [List.getElem?_set_ne (fun z => h (by simp [z])), wipe_other (fun z => h (by simp [z]))]
theorem wipeE_get {e : Env} {i : Nat} {x : D × Bool} : ∀ {vs : List Nat}, (wipeE e vs)[i]? = some (some x) → e[i]? = some (some x) ∧ i ∉ vs
  | [], h => ⟨h, by simp⟩
  | v :: vs, h => by
    unfold wipeE at h
    rcases set_get h with ⟨_, z⟩ | ⟨hi, z⟩
    · cases z
    · obtain ⟨a, b⟩ := wipeE_get z
      exact ⟨a, by simp [hi, b]⟩
theorem wipe_set {σ : L2.St} {i : Nat} {x : Option V} : ∀ {vs : List Nat}, i ∈ vs → wipe (σ.set i x) vs = wipe σ vs
  | [], h => by simp at h
  | v :: vs, h => by
    unfold wipe
    by_cases hv : i ∈ vs
    · rw [wipe_set hv]
    · have e : i = v := by simpa [hv] using h
      subst e
      have key : ∀ (ws : List Nat) (τ : L2.St), i ∉ ws → wipe (τ.set i x) ws = (wipe τ ws).set i x := by
        intro ws
        induction ws with
        | nil => intro τ _; rfl
        | cons w ws ih =>
          intro τ hw
          unfold wipe
          rw [ih τ (fun z => hw (by simp [z])), List.set_comm _ _ (fun z => hw (by simp [z]))]
      rw [key vs σ hv, List.set_set]
theorem wipe_idem {σ : L2.St} : ∀ (vs : List Nat), wipe (wipe σ vs) vs = wipe σ vs := by
  have swap : ∀ (ws : List Nat) (τ : L2.St) (i : Nat), wipe (τ.set i none) ws = (wipe τ ws).set i none := by
    intro ws
    induction ws with
    | nil => intro τ i; rfl
    | cons w ws ih =>
      intro τ i
      unfold wipe
      rw [ih]
      by_cases h : i = w
      · subst h; rfl
      · rw [List.set_comm _ _ h]
  intro vs
  induction vs with
  | nil => rfl
  | cons v vs ih =>
    show (wipe ((wipe σ vs).set v none) vs).set v none = (wipe σ vs).set v none
    rw [swap, ih, List.set_set]
theorem EnvG.wipe {K : PySem.W.Frag} {A : Nat → Prop} {σ : L2.St} {e : Env} {H G : Hp} (h : EnvG K A σ e H G) (vs : List Nat) : EnvG K A (L2.wipe σ vs) (wipeE e vs) H G :=
  ⟨h.sub, by rw [wipe_length, wipeE_length]; exact h.len, fun i d o hi => by
    obtain ⟨a, b⟩ := wipeE_get hi
    rw [wipe_other b]
    exact h.val i d o a⟩
theorem EnvG.set {K : PySem.W.Frag} {A : Nat → Prop} {σ : L2.St} {e : Env} {H G : Hp} (h : EnvG K A σ e H G) (i : Nat) {d : D} {v : V} (r : Rep K G d v) : EnvG K A (σ.set i (some v)) (e.set i (some (d, false))) H G :=
  ⟨h.sub, by rw [List.length_set, List.length_set]; exact h.len, fun j d' o hj => by
    rcases set_get hj with ⟨rfl, z⟩ | ⟨hij, z⟩
    · cases z
      have hl : j < e.length := by
        by_cases hl : j < e.length
        · exact hl
        · rw [List.getElem?_eq_none (by simpa using hl)] at hj; cases hj
      exact ⟨v, List.getElem?_set_self (by rw [h.len]; exact hl), fun _ => r, r.c h.sub⟩
    · rw [List.getElem?_set_ne (Ne.symm hij)]
      exact h.val j d' o z⟩
/-- the items: what is walked, by the pattern, where the test holds -/
def compL (e : Env) (p : Pat) (ft : Env → Res Bool) (fe : Env → Res D) : List D → Res (List D)
  | [] => .ok []
  | d :: ds => match p.bind d e with
    | .ok e1 => match ft e1 with
      | .ok true => match fe e1 with
        | .ok y => (compL e p ft fe ds).bind fun ys => .ok (y :: ys)
        | _ => .bad
      | .ok false => compL e p ft fe ds
      | _ => .bad
    | _ => .bad
def bYes : Env → Res Bool := fun _ => .ok true
def eComp (own : List Nat) (p : Pat) (fi : Env → Res (List D)) (ft : Env → Res Bool) (fe : Env → Res D) : Env → Res D := fun e => (fi e).bind fun ds => if ds.length ≤ sizeLine then (match compL (wipeE e own) p ft fe ds with
  | .ok ys => .ok (.lst ys)
  | _ => .bad) else .bad
abbrev WF : WX := fun _ _ _ _ => False
abbrev DTs (X : Cx) (A : Nat → Prop) (ifs : List Expr) (f : Env → Res Bool) : Prop := PTs X ifs (tT X.K X.mg WF A f)
theorem dts_nil {X : Cx} {A : Nat → Prop} : DTs X A [] bYes := ⟨fun pins s σ H Q I ⟨e, G, E, p⟩ => pts_nil.run pins s σ H Q I (p.here E.sub)⟩
/-- the reading of a comprehension, from the data's -/
theorem comp_imp {K : PySem.W.Frag} {mg : Str → Option Value} {W : WX} {A : Nat → Prop} {own : List Nat} {p : Pat} {fi : Env → Res (List D)} {ft : Env → Res Bool} {fe : Env → Res D} {g : TG} (hsl : ∀ i ∈ p.slots, i ∈ own)
    (hg : ∀ (R : L2.St → Env → Hp → Hp → Prop), Setable K p.slots R → ∀ (v : V) (σ : L2.St) (H G : Hp) (d : D) (e e' : Env) (Q : L2.St → Hp → Prop), R σ e H G → Sub G H → Rep K G d v → p.bind d e = .ok e' → (∀ σ', R σ' e' H G → Q σ' H) → g v σ H Q)
    (σ : L2.St) (H : Hp) (Q : VK) (q : tF K mg W A (eComp own p fi ft fe) σ H Q) : tLc (tIR K mg W A fi) g (tT K mg WF A ft) (tD K mg WF A fe) own σ H Q := by
  obtain ⟨e, G, E, pp⟩ := q
  refine ⟨e, G, E, pp.split.imp fun ds H1 G1 x1 p1 J w D0 hD => ?_⟩
  have E1 := E.ext x1
  by_cases hz : ds.length ≤ sizeLine
  · rw [if_pos hz] at p1
    cases hc : compL (wipeE e own) p ft fe ds with
    | exc c fs => rw [hc] at p1; exact p1.elim
    | bad => rw [hc] at p1; exact p1.elim
    | ok total =>
      rw [hc] at p1
      have gD : G1 D0 = none := x1.gh.free hD
      refine ⟨fun i m H2 => m = ds.length - i ∧ i ≤ ds.length ∧ ∃ (G2 : Hp) (acc : List D) (accV : List V) (rest : List D), Ext H1 G1 H2 G2 ∧ G2 D0 = none ∧ H2 D0 = some (.lst accV) ∧ RepL K G2 acc accV ∧ acc.length ≤ i ∧ compL (wipeE e own) p ft fe (ds.drop i) = .ok rest ∧ acc ++ rest = total,
        ⟨ds.length, rfl, Nat.zero_le _, G1, [], [], total, ⟨Sub.upd hD, Sub.refl _, x1.gh.trans (Sub.upd hD), fun b z => .inl z⟩, gD, upd_same, rfl, Nat.zero_le _, hc, rfl⟩, ?_⟩
      rintro i m H2 ⟨rfl, hi, G2, acc, accV, rest, x2, g2, h2, r2, ha, hr, ht⟩
      by_cases hlt : i < ds.length
      · refine .inr ⟨w.go H2 i x2.hh hlt, fun H3 => ∃ (G3 : Hp) (acc : List D) (accV : List V) (rest : List D), Ext H1 G1 H3 G3 ∧ G3 D0 = none ∧ H3 D0 = some (.lst accV) ∧ RepL K G3 acc accV ∧ acc.length ≤ i + 1 ∧ compL (wipeE e own) p ft fe (ds.drop (i + 1)) = .ok rest ∧ acc ++ rest = total, fun H3 h => ⟨ds.length - (i + 1), by omega, rfl, hlt, h⟩, fun x H3 y => ?_⟩
        obtain ⟨d, G3, hd, x3, rd⟩ := w.yld H2 G2 i x H3 x2.hh x2.gg x2.gh hlt y
        have x13 := x2.trans x3
        have n3 : ∀ {H' G' : Hp}, Ext H2 G2 H' G' → G' D0 = none := fun {H' G'} x => by
          cases hga : G' D0 with
          | none => rfl
          | some u =>
            rcases x.new D0 (by rw [hga]; simp) with z | z
            · exact absurd g2 z
            · rcases z with z | ⟨_, z⟩ <;> (rw [h2] at z; cases z)
        have e0 : ds.drop i = d :: ds.drop (i + 1) := by
          rw [List.drop_eq_getElem_cons hlt]
          have : ds[i] = d := by
            have := List.getElem?_eq_getElem hlt
            rw [hd] at this
            exact (Option.some.inj this).symm
          rw [this]
        rw [e0] at hr
        dsimp only [compL] at hr
        cases hb : p.bind d (wipeE e own) with
        | exc c fs => rw [hb] at hr; cases hr
        | bad => rw [hb] at hr; cases hr
        | ok e1 =>
          rw [hb] at hr
          dsimp only at hr
          refine hg (fun σ' e' H' G' => EnvG K A σ' e' H' G' ∧ L2.wipe σ' own = L2.wipe σ own) (fun σ' e' H' G' j d' v hj ⟨R1, R2⟩ r => ⟨R1.set j r, by rw [wipe_set (hsl j hj)]; exact R2⟩) x (L2.wipe σ own) H3 G3 d (wipeE e own) e1 _ ⟨(E1.ext x13).wipe own, wipe_idem own⟩ x3.gh rd hb fun σ' ⟨R1, R2⟩ => ⟨R2, e1, G3, R1, ?_⟩
          cases hft : ft e1 with
          | exc c fs => rw [hft] at hr; cases hr
          | bad => rw [hft] at hr; cases hr
          | ok b =>
            rw [hft] at hr
            intro H4 G4 x4
            cases b with
            | false =>
              dsimp only at hr ⊢
              rw [if_neg Bool.false_ne_true]
              exact ⟨G4, acc, accV, rest, x13.trans x4, n3 (x3.trans x4), x4.hh _ _ (x3.hh _ _ h2), (r2.mono x3.gg).mono x4.gg, Nat.le_succ_of_le ha, hr, ht⟩
            | true =>
              dsimp only at hr ⊢
              rw [if_pos rfl]
              refine ⟨e1, G4, R1.ext x4, ?_⟩
              cases hfe : fe e1 with
              | exc c fs => rw [hfe] at hr; cases hr
              | bad => rw [hfe] at hr; cases hr
              | ok y =>
                rw [hfe] at hr
                dsimp only at hr
                intro H5 G5 x5 yv ry
                cases hcr : compL (wipeE e own) p ft fe (ds.drop (i + 1)) with
                | exc c fs => rw [hcr] at hr; cases hr
                | bad => rw [hcr] at hr; cases hr
                | ok rest' =>
                  rw [hcr] at hr
                  cases hr
                  have x25 := (x3.trans x4).trans x5
                  have x15 := x2.trans x25
                  have n5 := n3 x25
                  have h5 := x25.hh _ _ h2
                  refine ⟨accV, h5, ?_, G5, acc ++ [y], accV ++ [yv], rest', ⟨fun b o z => ?_, x15.gg, fun b o z => ?_, x15.new⟩, n5, upd_same, (r2.mono x25.gg).append (.cons ry rfl), ?_, rfl, ?_⟩
                  · rw [r2.length]; omega
                  · have nb : b ≠ D0 := fun q => by rw [q, hD] at z; cases z
                    rw [upd_ne nb]; exact x15.hh _ _ z
                  · have nb : b ≠ D0 := fun q => by rw [q, n5] at z; cases z
                    rw [upd_ne nb]; exact x15.gh _ _ z
                  · rw [List.length_append, List.length_singleton]; omega
                  · rw [← ht, List.append_assoc]; rfl
      · have ei : i = ds.length := by omega
        subst ei
        refine .inl ⟨w.stop H2 x2.hh, ?_⟩
        rw [List.drop_length] at hr
        cases hr
        rw [List.append_nil] at ht
        subst ht
        exact p1 H2 G2 x2 D0 (x1.hh.free hD) g2 ⟨accV, h2, r2⟩
  · rw [if_neg hz] at p1; exact p1.elim
section
variable {X : Cx} {W : WX} {H0 : Bas} {G0 : Hp} {A : Nat → Prop} {al : List Nat} {pos spos : Pos}
theorem df_comp {elt tg iter : Expr} {ifs : List Expr} {scope : Scope} {own : List (Str × Nat)} {p : Pat} {fi : Env → Res (List D)} {ft : Env → Res Bool} {fe : Env → Res D} (hc : X.calm = true) (hN : X.N.Nodup) (hi : DIR X W A tg iter fi) (ok : BlkOk X.N X.env.scope scope own)
    (hg : ∀ (s : Shared) (H : Hp) (C : Addr) (cl : List (Str × Addr)) (fp : List Addr), DG (X.blk s H scope (compEnvC scope cl C X.env) fp) tg p) (ht : ∀ (s : Shared) (H : Hp) (C : Addr) (cl : List (Str × Addr)) (fp : List Addr), DTs (X.blk s H scope (compEnvC scope cl C X.env) fp) A ifs ft)
    (he : ∀ (s : Shared) (H : Hp) (C : Addr) (cl : List (Str × Addr)) (fp : List Addr), DE (X.blk s H scope (compEnvC scope cl C X.env) fp) WF A elt fe) (hsl : ∀ i ∈ p.slots, i ∈ own.map (·.2)) (hs : ∀ x, foldedSetIterable iter X.env x = pure x := by intro _; rfl) :
    DF X W A (.ListComp elt [⟨tg, iter, ifs, 0⟩] scope pos) (eComp (own.map (·.2)) p fi ft fe) := by
  let g0 : TG := fun v σ H Q => ∃ (R : L2.St → Env → Hp → Hp → Prop) (G : Hp) (d : D) (e e' : Env), Setable X.K p.slots R ∧ R σ e H G ∧ Sub G H ∧ Rep X.K G d v ∧ p.bind d e = .ok e' ∧ ∀ σ', R σ' e' H G → Q σ' H
  have hg' : ∀ (s : Shared) (H : Hp) (C : Addr) (cl : List (Str × Addr)) (fp : List Addr), PG (X.blk s H scope (compEnvC scope cl C X.env) fp) tg g0 := fun s H C cl fp => by
    obtain ⟨g, g1, g2⟩ := hg s H C cl fp
    exact ⟨fun pins s σ H v u Q I r ⟨R, G, d, e, e', a1, a2, a3, a4, a5, a6⟩ => g1.run pins s σ H v u Q I r (g2 R a1 v σ H G d e e' Q a2 a3 a4 a5 a6)⟩
  exact (pe_lc hc hN hi ok hg' ht he hs).imp (comp_imp (mg := X.mg) hsl fun R hR v σ H G d e e' Q a1 a2 a3 a4 a5 => ⟨R, G, d, e, e', hR, a1, a2, a3, a4, a5⟩)
end
end DL

namespace DL
open PySem PySem.Spec PyProof.Rows L2
open PySem.Builtin.Int (intBits)

/-! ### a name that never holds a list to be changed -/
def eVarS (i : Nat) : Env → Res D := fun e => match e[i]? with
  | some (some (d, false)) => .ok d
  | _ => .bad
section
variable {X : Cx} {W : WX} {A : Nat → Prop} {a b : Expr} {rest : List Expr} {pos p p1 p2 : Pos} {x T : Str} {H0 : Bas} {G0 : Hp}
theorem de_vs {i : Nat} {x : Str} {pos : Pos} (hN : X.N[i]? = some x) (hv : Vis X.env.scope x) (hd : (x == ("__debug__" : Str)) = false := by decide) (hcd : (x == ("__classdict__" : Str)) = false := by decide) : DE X W A (.Name x pos) (eVarS i) :=
  (pe_var hN hv hd hcd).imp fun σ H Q ⟨e, G, E, p⟩ => by
    unfold eVarS at p
    cases h : e[i]? with
    | none => rw [h] at p; exact p.elim
    | some s => cases s with
      | none => rw [h] at p; exact p.elim
      | some z =>
        obtain ⟨d, o⟩ := z
        rw [h] at p
        cases o with
        | true => exact p.elim
        | false =>
          obtain ⟨v, h1, h2, h3⟩ := E.val i d false h
          exact ⟨v, h1, p.here E.sub v (h2 (.inr rfl))⟩

/-! ### isinstance -/
/-- the name of the data's own type -/
def D.tyN : D → Option String
  | .non => some "NoneType"
  | .bl _ => some "bool"
  | .int _ => some "int"
  | .str _ => some "str"
  | .tup _ => some "tuple"
  | .con _ => some "tuple"
  | .lst _ => some "list"
  | _ => none
def isInt : D → Res D
  | .int _ => .ok (.bl true)
  | .bl _ => .ok (.bl true)
  | d => if d.tyN = none then .bad else .ok (.bl false)
def isBool : D → Res D
  | .bl _ => .ok (.bl true)
  | d => if d.tyN = none then .bad else .ok (.bl false)
def isTup : D → Res D
  | .tup _ => .ok (.bl true)
  | .con _ => .ok (.bl true)
  | d => if d.tyN = none then .bad else .ok (.bl false)
def isStr : D → Res D
  | .str _ => .ok (.bl true)
  | d => if d.tyN = none then .bad else .ok (.bl false)
def isList : D → Res D
  | .lst _ => .ok (.bl true)
  | d => if d.tyN = none then .bad else .ok (.bl false)
/-! ### raise, try -/
structure ExcOk (K : PySem.W.Frag) (mg : Str → Option Value) (c : String) : Prop where
  ok : ∃ C B newId initId bmB, PySem.ExcBaseFacts B newId initId bmB ∧ PySem.W.excIn K C bmB newId = true ∧ mg (Str.ofString c) = some (.ref C) ∧ PySem.W.keepIn K (.ref C) = true ∧
    PySem.W.subIn K (.ref C) (.type "BaseException") = some true ∧ PySem.W.typeIn K (.ref C) = some (.type "type")
def sRaise (c : String) : Env → Out := fun e => .ex c [] e
theorem ds_raise {c : String} {m : Str} {j : Nat} (hx : ExcOk X.K X.mg c) (hc : X.calm = true) (tk : Takes X W) (hg : Gl X (Str.ofString c)) (hdb : (Str.ofString c == ("__debug__" : Str)) = false := by decide) :
    DS X W H0 G0 (.Raise (some (.Call (.Name (Str.ofString c) p) [.Constant (.str m) j p2] [] p1)) none pos) (sRaise c) := by
  obtain ⟨C, B, newId, initId, bmB, F, q, gC, kC, b1, b2⟩ := hx.ok
  exact (ps_raise hc tk (pmk_own F q gC kC (raises_own b1 b2) hg hdb)).imp fun Z σ H ⟨e, G, S, p⟩ => p (.ref C) none σ H G H S (Sub.refl H) ⟨gC, rfl⟩
/-- what "except X" does at each class -/
def Clause (K : PySem.W.Frag) (mg : Str → Option Value) (c : Value) (h : String → Option Bool) : Prop := ∀ k b cls, h k = some b → mg (Str.ofString k) = some cls → PySem.W.exmOne K cls c = some b
/-- nothing is raised out of here -/
def noEx (r : Out) : Out := match r with
  | .ex _ _ _ => .bad
  | r => r
def sTry (h : String → Option Bool) (fb fs : Env → Out) : Env → Out := fun e => match fb e with
  | .ex c fs' e' => match h c with
    | some true => noEx (fs e')
    | some false => .ex c fs' e'
    | none => .bad
  | r => r
end
end DL

namespace DL
open PySem PySem.Spec PyProof.Rows L2
open PySem.Builtin.Int (intBits)

theorem _root_.L2.Room.hu {k : Nat} {A : Around} (h : Room k A) : A.units + 64 < cLine := by have := h.un; omega
theorem CallOk.up {P : Program} {w : World} {K : PySem.W.Frag} {mg : Str → Option Value} {base : Heap} {j k : Nat} {x : Str} {ps : List Str} {F : List D → Res D} (h : CallOk P w K mg base j x ps F) (hjk : j ≤ k) : CallOk P w K mg base k x ps F := by
  obtain ⟨f, fd, a, b, c, d⟩ := h.ok
  exact ⟨f, fd, a, b, c, d.mono hjk⟩
theorem endW {l : PySem.W.OpenLaw} {k : Nat} {q : Program} {loose : List Str} {XP : (Str → Option Value) → Heap → Prop} {YP : World → Heap → Prop} {d : DefRec} {K : Params → PySem.W.Frag} {x : Str} {F : List D → Res D}
    (hn : l.most = some 63) (hdf : d.params.defaults = []) (hk : k < 60) (hY : ∀ (w : World) (h : Heap), YP w h → (K w.params).In h)
    (FF : ∀ (w : World) (mg : Str → Option Value) (fa : Addr) (h : Heap), (K w.params).In h → h.Ns mainGlobals mg → mg d.name = some (.ref fa) →
      ∃ fd : FuncData, (∀ (s : Shared) (u : Value), BindsTo s fd ⟨[u], []⟩ [(x, u)]) ∧ ∀ base : Heap, (K w.params).In base → base.Ns mainGlobals mg → FnOk l.prog w (K w.params) mg base (L2.CX l.prog w) k fa fd [x] (spD (K w.params) mg 1 F))
    (law : ∀ ns : List Int, ns.length ≤ 63 → (∀ z ∈ ns, intBits z ≤ 1048576) → F [.lst (ns.map D.int)] = .ok (.bl true)) :
    PySem.W.WalkO q loose XP YP l.row.toRowW d [] (fun f vs => PySem.call f vs) := by
  let sp : World → Sp := fun w => fun vs H Q E => vs.length = 1 ∧ ∃ (a : Addr) (ns : List Int), vs = [.ref a] ∧ ns.length ≤ 63 ∧ (∀ z ∈ ns, intBits z ≤ 1048576) ∧ SqL (K w.params) H a (ns.map V.int) ∧ ∀ H', Q (.bl true) H'
  refine L2.walk_ofB (l := l) (n := 63) (k := k) (x := x) (K := K) (CX := fun w => L2.CX l.prog w) (sp := sp) hn (by rw [PySem.sizeLine_eq]; decide) hdf (Room.mono (k := 60) ⟨rfl, by decide, by decide⟩ (by omega)) hY (fun w mg fa h a b c => ?_) (fun w H a ns hl hb _ hS => ⟨rfl, a, ns, rfl, hl, hb, hS, fun _ => rfl⟩) ?_
  · obtain ⟨fd, b1, b2⟩ := FF w mg fa h a b c
    refine ⟨fd, b1, fun base k1 k2 => ?_⟩
    have f := b2 base k1 k2
    refine ⟨fun vs H Q E h => h.1, fun A outer s H args us vs Q E r e bt vv hsp => f.run A outer s H args us vs Q E r e bt vv ?_⟩
    obtain ⟨_, a, ns, rfl, hl, hb, hS, hq⟩ := hsp
    refine ⟨rfl, [.lst (ns.map D.int)], H, Sub.refl H, ⟨_, _, rfl, ⟨a, _, rfl, hS, RepL.of_ints ns⟩, rfl⟩, ?_⟩
    rw [law ns hl hb]
    exact fun H' G' _ v hv => by cases (show v = .bl true from hv); exact hq H'
  · rintro w H s e s' ⟨_, _, _, _, _, _, _, _, _, _, _, _, z⟩
    exact z
end DL

namespace DL
open PySem PySem.Spec PyProof.Rows L2
open PySem.Builtin.Int (intBits)
/-! ### which classes an "except" names -/
theorem Clause.nil {K : PySem.W.Frag} {mg : Str → Option Value} {c : Value} : Clause K mg c (fun _ => none) := fun k b cls h _ => by cases h
theorem Clause.cons {K : PySem.W.Frag} {mg : Str → Option Value} {c : Value} {n : String} {C : Addr} {b : Bool} {f : String → Option Bool} (hm : mg (Str.ofString n) = some (.ref C)) (he : PySem.W.exmOne K (.ref C) c = some b) (t : Clause K mg c f) : Clause K mg c (fun s => if s = n then some b else f s) := fun k b' cls h hc => by
  dsimp only at h
  by_cases hk : k = n
  · subst hk
    rw [if_pos rfl] at h
    cases h
    rw [hm] at hc
    cases hc
    exact he
  · rw [if_neg hk] at h
    exact t k b' cls h hc
theorem exm_two {K : PySem.W.Frag} {A S : Addr} {b : Bool} (h1 : PySem.W.subIn K (.ref S) (.type "BaseException") = some true) (h2 : PySem.W.isClsIn K S = true) (h3 : PySem.W.typeIn K (.ref S) = some (.type "type")) (h4 : PySem.W.subIn K (.ref A) (.ref S) = some b) : PySem.W.exmOne K (.ref A) (.ref S) = some b := by
  have e1 : (PySem.W.subIn K (.ref S) (.type "BaseException") == some true) = true := by rw [h1]; rfl
  have e2 : ((PySem.W.clsIn K S).isSome && PySem.W.typeIn K (.ref S) == some (.type "type")) = true := by
    have h2' : (PySem.W.clsIn K S).isSome = true := h2
    rw [h2', h3]; rfl
  show (if (PySem.W.subIn K (.ref S) (.type "BaseException") == some true) = true then (if ((PySem.W.clsIn K S).isSome && PySem.W.typeIn K (.ref S) == some (.type "type")) = true then PySem.W.subIn K (.ref A) (.ref S) else none) else none) = some b
  rw [if_pos e1, if_pos e2]
  exact h4
/-! ### a module's constant -/
structure ConOk (K : PySem.W.Frag) (mg : Str → Option Value) (x : String) (d : D) : Prop where
  ok : ∃ u v, mg (Str.ofString x) = some u ∧ RelV v u ∧ ∀ G, Rep K G d v
theorem de_con {X : Cx} {W : WX} {A : Nat → Prop} {x : String} {d : D} {pos : Pos} (h : ConOk X.K X.mg x d) (hg : Gl X (Str.ofString x)) (hd : (Str.ofString x == ("__debug__" : Str)) = false := by decide) : DE X W A (.Name (Str.ofString x) pos) (eC d) := by
  obtain ⟨u, v, h1, h2, h3⟩ := h.ok
  exact de_glob hg h1 h2 h3 hd
/-- a value of the written part is the data d -/
structure Con (K : PySem.W.Frag) (d : D) (u : Value) : Prop where
  ok : ∃ v, RelV v u ∧ ∀ G, Rep K G d v
theorem Con.int {K : PySem.W.Frag} {i : Int} {t : Tok} : Con K (.int i) (.int i t) := ⟨.int i, ⟨t, rfl⟩, fun _ => rfl⟩
theorem Con.str {K : PySem.W.Frag} {x : Str} {t : Tok} : Con K (.str x) (.str x t) := ⟨.str x, ⟨t, rfl⟩, fun _ => rfl⟩
def Cons (K : PySem.W.Frag) : List D → List Value → Prop
  | [], us => us = []
  | d :: ds, us => ∃ u r, us = u :: r ∧ Con K d u ∧ Cons K ds r
theorem Cons.rep {K : PySem.W.Frag} : ∀ {ds : List D} {us : List Value}, Cons K ds us → ∃ vs, Vals vs us ∧ ∀ G, RepL K G ds vs
  | [], _, rfl => ⟨[], .nil, fun _ => rfl⟩
  | d :: ds, _, ⟨u, r, rfl, h, t⟩ => by
    obtain ⟨v, h1, h2⟩ := h.ok
    obtain ⟨vs, h3, h4⟩ := Cons.rep t
    exact ⟨v :: vs, .cons h1 h3, fun G => ⟨v, vs, rfl, h2 G, h4 G⟩⟩
theorem Con.tup {K : PySem.W.Frag} {a : Addr} {us : List Value} {n : Nat} {sl : Array (Option Value)} {ds : List D} (h : K.lookup a = some ⟨.type "tuple", none, .seq us.toArray n, sl⟩) (c : Cons K ds us) (hn : us.length ≤ 1000) : Con K (.con ds) (.ref a) := by
  obtain ⟨vs, h3, h4⟩ := c.rep
  refine ⟨.ref a, rfl, fun G => ⟨a, vs, rfl, .inr ⟨_, _, n, h, rfl, rfl, rfl, ?_, by simpa using h3⟩, h4 G⟩⟩
  rw [PySem.sizeLine_eq]
  simp
  omega
theorem Con.at {K : PySem.W.Frag} {mg : Str → Option Value} {x : String} {d : D} {u : Value} (h : Con K d u) (hm : mg (Str.ofString x) = some u) : ConOk K mg x d := by
  obtain ⟨v, h1, h2⟩ := h.ok
  exact ⟨u, v, hm, h1, h2⟩
end DL

namespace DL
open PySem PySem.Spec PyProof.Rows L2
open PySem.Builtin.Int (intBits)
/-! ### range of three -/
def prog3 (i c : Int) (n : Nat) : List D := (List.range n).map fun k => D.int (i + (k : Nat) * c)
open Classical in
noncomputable def rg3 (i j c : Int) : Res (List D) := if h : ∃ n, RgC i j c n then .ok (prog3 i c (Classical.choose h)) else .bad
noncomputable def r3D : D → D → D → Res (List D) := fun x y z => match x, y, z with
  | .int i, .int j, .int c => rg3 i j c
  | _, _, _ => .bad
noncomputable def iRange3 (f g h : DL.Env → Res D) : DL.Env → Res (List D) := fun e => (f e).bind fun x => (g e).bind fun y => (h e).bind fun z => r3D x y z
section
variable {X : Cx} {W : WX} {A : Nat → Prop} {a b c : Expr} {pos : Pos}
/-- x, y = a, b with no tuple made -/
def sPar (al : List Nat) (i j : Nat) (fs : DL.Env → Res (List D)) : DL.Env → Out := sE al fs fun ds e => match ds with
  | [x, y] => .nx ((e.set i (some (x, false))).set j (some (y, false)))
  | _ => .bad
/-! ### zip of two -/
end
end DL

namespace DL
open PySem PySem.Spec PyProof.Rows L2
open PySem.Builtin.Int (intBits)
/-! ### str of truth values and numbers -/
def dStr : D → Res D
  | .bl b => .ok (.str (if b = true then "True" else "False"))
  | _ => .bad
/-! ### except X as e -/
theorem StOk.clear {K : PySem.W.Frag} {H0 : Bas} {G0 H G : Hp} {σ : L2.St} {e : DL.Env} (S : StOk K H0 G0 σ e H G) (i : Nat) : StOk K H0 G0 (σ.set i none) (e.set i none) H G := by
  have get : ∀ (j : Nat) (z : D × Bool), (e.set i none)[j]? = some (some z) → i ≠ j ∧ e[j]? = some (some z) := fun j z h => by
    by_cases hj : i = j
    · subst hj
      rw [List.getElem?_set] at h
      split at h
      · split at h <;> cases h
      · rename_i k; exact absurd rfl k
    · rw [List.getElem?_set_ne hj] at h
      exact ⟨hj, h⟩
  refine ⟨S.ext, by rw [List.length_set, List.length_set]; exact S.len, fun j d h => ?_, fun j d h => ?_, fun j k d d' a h1 h2 h3 h4 => ?_, fun j a d hp h => ?_⟩
  · obtain ⟨hj, h'⟩ := get j _ h
    rw [List.getElem?_set_ne hj]
    exact S.sh j d h'
  · obtain ⟨hj, h'⟩ := get j _ h
    rw [List.getElem?_set_ne hj]
    exact S.ow j d h'
  · obtain ⟨hj, h1'⟩ := get j _ h1
    obtain ⟨hk, h2'⟩ := get k _ h2
    rw [List.getElem?_set_ne hj] at h3
    rw [List.getElem?_set_ne hk] at h4
    exact S.ne j k d d' a h1' h2' h3 h4
  · obtain ⟨hj, h'⟩ := get j _ h
    rw [List.getElem?_set_ne hj]
    exact S.pn j a d hp h'
/-- the error's name is gone behind the suite; nothing is raised out of it -/
def clrN (i : Nat) : Out → Out
  | .nx e => .nx (e.set i none)
  | .bk e => .bk (e.set i none)
  | .ct e => .ct (e.set i none)
  | .rt d => .rt d
  | .ro d => .ro d
  | .rm d e => .rm d (e.set i none)
  | _ => .bad
open Classical in
/-- what is so at every address -/
noncomputable def unif (g : Addr → Out) : Out := if h : ∃ r, ∀ a, g a = r then Classical.choose h else .bad
theorem unif_of {g : Addr → Out} {r : Out} (h : ∀ a, g a = r) : unif g = r := by
  have hx : ∃ r, ∀ a, g a = r := ⟨r, h⟩
  unfold unif
  rw [dif_pos hx]
  exact (Classical.choose_spec hx 0).symm.trans (h 0)
theorem unif_at {g : Addr → Out} (h : unif g ≠ .bad) (a : Addr) : unif g = g a := by
  unfold unif at h ⊢
  by_cases hx : ∃ r, ∀ a, g a = r
  · rw [dif_pos hx]; exact (Classical.choose_spec hx a).symm
  · rw [dif_neg hx] at h; exact absurd rfl h
noncomputable def sTryAs (i : Nat) (h : String → Option Bool) (fb : DL.Env → Out) (fs : Addr → String → DL.Env → Out) : DL.Env → Out := fun e => match fb e with
  | .ex c fs' e' => match h c with
    | some true => if fs' = [] then unif fun a => clrN i (fs a c (e'.set i (some (.obj (.ref a), false)))) else .bad
    | some false => .ex c fs' e'
    | none => .bad
  | r => r
section
variable {X : Cx} {W : WX} {A : Nat → Prop} {a b : Expr} {rest : List Expr} {pos p p1 p2 : Pos} {H0 : Bas} {G0 : Hp}
/-! ### isinstance of the caught error -/
def IsTab (K : PySem.W.Frag) (mg : Str → Option Value) (cv : Value) (t : String → Option Bool) : Prop := ∀ c b cls, t c = some b → mg (Str.ofString c) = some cls → ∃ C, cls = .ref C ∧ ExcC K C ∧ PySem.W.kitOne K (.ref C) cv = some b
theorem IsTab.nil {K : PySem.W.Frag} {mg : Str → Option Value} {cv : Value} : IsTab K mg cv (fun _ => none) := fun c b cls h _ => by cases h
theorem IsTab.cons {K : PySem.W.Frag} {mg : Str → Option Value} {cv : Value} {n : String} {C : Addr} {b : Bool} {f : String → Option Bool} (hm : mg (Str.ofString n) = some (.ref C)) (hc : ExcC K C) (he : PySem.W.kitOne K (.ref C) cv = some b) (t : IsTab K mg cv f) : IsTab K mg cv (fun s => if s = n then some b else f s) := fun k b' cls h hcl => by
  dsimp only at h
  by_cases hk : k = n
  · subst hk
    rw [if_pos rfl] at h
    cases h
    rw [hm] at hcl
    cases hcl
    exact ⟨C, rfl, hc, he⟩
  · rw [if_neg hk] at h
    exact t k b' cls h hcl
theorem kit_own {K : PySem.W.Frag} {A S : Addr} {b : Bool} (hne : (Value.ref A == Value.ref S) = true → b = true) (h2 : PySem.W.isClsIn K S = true) (h3 : PySem.W.typeIn K (.ref S) = some (.type "type")) (h4 : PySem.W.subIn K (.ref A) (.ref S) = some b) : PySem.W.kitOne K (.ref A) (.ref S) = some b := by
  unfold PySem.W.kitOne
  by_cases h : (Value.ref A == Value.ref S) = true
  · rw [if_pos h, hne h]
  · rw [if_neg h]
    have e2 : ((PySem.W.clsIn K S).isSome && PySem.W.typeIn K (.ref S) == some (.type "type")) = true := by
      have h2' : (PySem.W.clsIn K S).isSome = true := h2
      rw [h2', h3]; rfl
    show (if ((PySem.W.clsIn K S).isSome && PySem.W.typeIn K (.ref S) == some (.type "type")) = true then PySem.W.subIn K (.ref A) (.ref S) else none) = some b
    rw [if_pos e2]
    exact h4
def eIsE (i : Nat) (a : Addr) (o : Option Bool) : DL.Env → Res D := fun e => match e[i]? with
  | some (some (.obj (.ref a'), false)) => if a' = a then (match o with | some b => .ok (.bl b) | none => .bad) else .bad
  | _ => .bad
end
end DL

namespace DL
open PySem PySem.Spec PyProof.Rows L2
open PySem.Builtin.Int (intBits)
/-! ### dicts: the data -/
open Classical in
/-- what stands at a key -/
noncomputable def dFind (kvs : List (D × D)) (k : D) : Option D := (kvs.find? fun p => decide (p.1 = k)).map (·.2)
open Classical in
/-- a key set -/
noncomputable def dSet (kvs : List (D × D)) (k d : D) : List (D × D) := if (kvs.any fun p => decide (p.1 = k)) = true then kvs.map (fun p => if p.1 = k then (p.1, d) else p) else kvs ++ [(k, d)]
theorem keyD_inj {a b : Key} (h : keyD a = keyD b) : a = b := by
  cases a <;> cases b <;> simp [keyD] at h <;> rw [h]
theorem keyT_inj : ∀ {a b : List Key}, keyT a = keyT b → a = b := by
  intro a b h
  unfold keyT at h
  injection h with h
  induction a generalizing b with
  | nil => cases b with
    | nil => rfl
    | cons _ _ => simp at h
  | cons x a ih => cases b with
    | nil => simp at h
    | cons y b =>
      simp only [List.map_cons, List.cons.injEq] at h
      rw [keyD_inj h.1, ih h.2]
section
variable {κ : Type} [DecidableEq κ] {f : κ → D} {K : PySem.W.Frag} {G : Hp}
theorem repv_find (hf : ∀ a b, f a = f b → a = b) : ∀ {kvs : List (D × D)} {ps : List (κ × V)}, kvs.map (·.1) = ps.map (fun p => f p.1) → RepV K G kvs (ps.map (·.2)) → ∀ k : κ,
    (dFind kvs (f k) = none ∧ valV ps k = none) ∨ ∃ d v, dFind kvs (f k) = some d ∧ valV ps k = some v ∧ Rep K G d v
  | [], [], _, _, k => .inl ⟨rfl, rfl⟩
  | [], _ :: _, h, _, _ => by simp at h
  | _ :: _, [], h, _, _ => by simp at h
  | (k0, d0) :: kvs, (c0, v0) :: ps, h, r, k => by
    simp only [List.map_cons, List.cons.injEq] at h
    obtain ⟨v, r', e, r1, r2⟩ := r
    simp only [List.map_cons, List.cons.injEq] at e
    obtain ⟨e1, e2⟩ := e
    subst e1 e2
    have ih := repv_find hf h.2 r2 k
    have hk0 : k0 = f c0 := h.1
    subst hk0
    by_cases hk : c0 = k
    · subst hk
      refine .inr ⟨d0, v0, ?_, ?_, r1⟩
      · simp [dFind]
      · simp [valV]
    · have hk' : ¬ f c0 = f k := fun z => hk (hf _ _ z)
      have e1 : dFind ((f c0, d0) :: kvs) (f k) = dFind kvs (f k) := by simp [dFind, hk']
      have e2 : valV ((c0, v0) :: ps) k = valV ps k := by simp [valV, hk]
      rw [e1, e2]
      exact ih
theorem repv_app : ∀ {kvs : List (D × D)} {vs : List V} {k d : D} {v : V}, RepV K G kvs vs → Rep K G d v → RepV K G (kvs ++ [(k, d)]) (vs ++ [v])
  | [], _, k, d, v, rfl, h => ⟨v, [], rfl, h, rfl⟩
  | (_, d0) :: kvs, _, k, d, v, ⟨v0, r', e, r1, r2⟩, h => ⟨v0, r' ++ [v], by rw [e]; rfl, r1, repv_app r2 h⟩
end
end DL

namespace DL
open PySem PySem.Spec PyProof.Rows L2
open PySem.Builtin.Int (intBits)
/-! ### dicts: the rules -/
def eDNew (t : Bool) : DL.Env → Res D := fun _ => .ok (.dct t [])
section
variable {X : Cx} {W : WX} {A : Nat → Prop} {a b : Expr} {rest : List Expr} {pos p p1 p2 apos cpos : Pos} {H0 : Bas} {G0 : Hp}
/-- a key that fits the dict's kind -/
def D.isKey : D → Bool
  | .int _ => true
  | .str _ => true
  | _ => false
def D.keyOk (t : Bool) : D → Bool
  | .tup ds => t && ds.all D.isKey
  | d => !t && d.isKey
theorem key_of {d : D} (h : d.isKey = true) : ∃ k : Key, d = keyD k := by
  cases d with
  | int i => exact ⟨.inl i, rfl⟩
  | str x => exact ⟨.inr x, rfl⟩
  | _ => cases h
theorem keys_of : ∀ {ds : List D}, ds.all D.isKey = true → ∃ ks : List Key, ds = ks.map keyD
  | [], _ => ⟨[], rfl⟩
  | d :: ds, h => by
    simp only [List.all_cons, Bool.and_eq_true] at h
    obtain ⟨k, e⟩ := key_of h.1
    obtain ⟨ks, e2⟩ := keys_of h.2
    exact ⟨k :: ks, by rw [e, e2]; rfl⟩
theorem rep_key {K : PySem.W.Frag} {G : Hp} {k : Key} {v : V} (r : Rep K G (keyD k) v) : v = kV k := by
  cases k with
  | inl i => exact r
  | inr x => exact r
theorem rep_keys {K : PySem.W.Frag} {G : Hp} : ∀ {ks : List Key} {vs : List V}, RepL K G (ks.map keyD) vs → vs = ks.map kV
  | [], _, h => h
  | k :: ks, _, ⟨v, r, e, h1, h2⟩ => by rw [e, rep_key h1, rep_keys h2]; rfl
/-- what a dict tells at a key -/
theorem dget_rep {K : PySem.W.Frag} {H G : Hp} {t : Bool} {kvs : List (D × D)} {a : Addr} {k : D} {y : V} (sg : Sub G H) (r : RepC K H G (.dct t kvs) (.ref a)) (hk : D.keyOk t k = true) (ry : Rep K G k y) :
    ∃ o, DGet H a y o ∧ ((dFind kvs k = none ∧ o = none) ∨ ∃ d v, dFind kvs k = some d ∧ o = some v ∧ Rep K G d v) := by
  obtain ⟨a', ea, h⟩ := r
  cases ea
  rcases h with ⟨t0, ps, s, hkeys, rv⟩ | ⟨t0, ps, s, hkeys, rv⟩
  · subst t0
    have hk' : k.isKey = true := by
      cases k with
      | tup ds => simp [D.keyOk] at hk
      | _ => simpa [D.keyOk] using hk
    obtain ⟨κ, e⟩ := key_of hk'
    subst e
    refine ⟨valV ps κ, .inl ⟨ps, κ, s, rep_key ry, rfl⟩, ?_⟩
    exact repv_find (fun _ _ => keyD_inj) hkeys rv κ
  · subst t0
    cases k with
    | tup ds =>
      have hk' : ds.all D.isKey = true := by simpa [D.keyOk] using hk
      obtain ⟨ks, e⟩ := keys_of hk'
      subst e
      obtain ⟨b, vs, e1, e2, e3⟩ := ry
      have := rep_keys e3
      subst this
      refine ⟨valV ps ks, .inr ⟨ps, ks, b, s, e1, sg _ _ e2, rfl⟩, ?_⟩
      exact repv_find (f := keyT) (fun _ _ => keyT_inj) hkeys rv ks
    | _ => simp [D.keyOk] at hk
/-- d[k] -/
noncomputable def dAt : D → D → Res D := fun d k => match d with
  | .dct t kvs => if D.keyOk t k = true then (match dFind kvs k with | some x => .ok x | none => .bad) else .bad
  | _ => .bad
theorem de_dix {fa fb : DL.Env → Res D} (hu : X.A.units + 1 < cLine) (ha : DR X W A a fa) (hb : DE X W A b fb) (hs : NoSl b) : DE X W A (.Subscript a b pos) (eOp dAt fa fb) :=
  (pe_dget hu ha hb hs).imp fun σ H Q ⟨e, G, E, q⟩ => ⟨e, G, E, q.split.imp fun d H1 G1 x1 q1 v rv => ⟨e, G1, E.ext x1, q1.split.imp fun k H2 G2 x2 q2 y ry => by
    have rv := rv.mono x2.hh x2.gg
    cases d with
    | dct t kvs =>
      dsimp only [dAt] at q2
      by_cases hk : D.keyOk t k = true
      · rw [if_pos hk] at q2
        obtain ⟨a', ea, _⟩ := id rv
        subst ea
        obtain ⟨o, h1, h2⟩ := dget_rep x2.gh rv hk ry
        rcases h2 with ⟨e1, e2⟩ | ⟨d, w, e1, e2, e3⟩
        · rw [e1] at q2; exact q2.elim
        · rw [e1] at q2
          subst e2
          exact ⟨a', w, rfl, h1, q2.here x2.gh w e3⟩
      · rw [if_neg hk] at q2; exact q2.elim
    | _ => exact (show False from q2).elim⟩⟩
/-- d.get(k, x) -/
noncomputable def dGet2 : D → D → D → Res D := fun d k x => match d with
  | .dct t kvs => if D.keyOk t k = true then .ok ((dFind kvs k).getD x) else .bad
  | _ => .bad
noncomputable def eGet2 (fa fb fc : DL.Env → Res D) : DL.Env → Res D := fun e => (fa e).bind fun d => match d with
  | .dct t kvs => (fb e).bind fun k => (fc e).bind fun x => dGet2 (.dct t kvs) k x
  | _ => .bad
end
end DL

namespace DL
open PySem PySem.Spec PyProof.Rows L2
open PySem.Builtin.Int (intBits)
theorem _root_.L2.Room.hu1 {k : Nat} {A : Around} (h : Room k A) : A.units + 1 < cLine := by have := h.un; omega
/-- the dict that the name i holds, to be changed -/
def ownD (i : Nat) (e : DL.Env) (k : Bool → List (D × D) → Out) : Out := match e[i]? with
  | some (some (.dct t kvs, true)) => k t kvs
  | _ => .bad
/-- x[k] = v -/
noncomputable def sPutD (al : List Nat) (i : Nat) (fk fv : DL.Env → Res D) : DL.Env → Out := fun e => ownD i (fz al e) fun t kvs => sE al (fun e => (fv e).bind fun v => (fk e).bind fun k => .ok (k, v)) (fun kv e' =>
  if D.keyOk t kv.1 = true ∧ kvs.length < sizeLine then .nx (e'.set i (some (.dct t (dSet kvs kv.1 kv.2), true))) else .bad) e
section
variable {X : Cx} {W : WX} {H0 : Bas} {G0 : Hp} {al : List Nat} {pos p1 p2 : Pos}
/-- k in d, k not in d -/
noncomputable def dIn (no : Bool) : D → D → Res D := fun k d => match d with
  | .dct t kvs => if D.keyOk t k = true then .ok (.bl ((dFind kvs k).isSome != no)) else .bad
  | _ => .bad
theorem in_two {A : Nat → Prop} {fa fb : DL.Env → Res D} {no : Bool} {σ : L2.St} {H : Hp} {Q : VK} (h : tD X.K X.mg W A (eOp (dIn no) fa fb) σ H Q) :
    tD X.K X.mg W A fa σ H fun y H1 => tR X.K X.mg W A fb σ H1 fun x H2 => ∃ a o, x = V.ref a ∧ DGet H2 a y o ∧ Q (V.bl (o.isSome != no)) H2 := by
  obtain ⟨e, G, E, q⟩ := h
  refine ⟨e, G, E, q.split.imp fun k H1 G1 x1 q1 y ry => ⟨e, G1, E.ext x1, q1.split.imp fun d H2 G2 x2 q2 v rv => ?_⟩⟩
  cases d with
  | dct t kvs =>
    dsimp only [dIn] at q2
    by_cases hk : D.keyOk t k = true
    · rw [if_pos hk] at q2
      obtain ⟨a', ea, _⟩ := id rv
      subst ea
      obtain ⟨o, h1, h2⟩ := dget_rep x2.gh rv hk (ry.mono x2.gg)
      rcases h2 with ⟨e1, e2⟩ | ⟨d, w, e1, e2, e3⟩
      · rw [e1] at q2
        subst e2
        exact ⟨a', none, rfl, h1, q2.here x2.gh _ rfl⟩
      · rw [e1] at q2
        subst e2
        exact ⟨a', some w, rfl, h1, q2.here x2.gh _ rfl⟩
    · rw [if_neg hk] at q2; exact q2.elim
  | _ => exact (show False from q2).elim
theorem test_of {A : Nat → Prop} {f : DL.Env → Res D} {σ : L2.St} {H : Hp} {Q : Bool → Hp → Prop} (h : tT X.K X.mg W A (fun e => (f e).bind D.asB) σ H Q) : tD X.K X.mg W A f σ H fun v H' => ∃ k, v = .bl k ∧ Q k H' := by
  obtain ⟨e, G, E, q⟩ := h
  refine ⟨e, G, E, q.split.imp fun d H1 G1 x1 q1 v rv => ?_⟩
  cases d with
  | bl b => exact ⟨b, rv, q1.here x1.gh⟩
  | _ => exact (show False from q1).elim
theorem bTest_is (g : D → D → Res D) (fa fb : DL.Env → Res D) : bTest g fa fb = fun e => (eOp g fa fb e).bind D.asB := by
  funext e
  unfold bTest eOp
  cases fa e with
  | ok x => cases fb e with
    | ok y => rfl
    | exc c z => rfl
    | bad => rfl
  | exc c z => rfl
  | bad => rfl
theorem dt_dnotin {A : Nat → Prop} {a b : Expr} {fa fb : DL.Env → Res D} (hu : X.A.units + 1 < cLine) (ha : DE X W A a fa) (hb : DR X W A b fb) (hm : behindInMarks .NotIn b = false := by rfl) : DT X W A (.Compare a [.NotIn] [b] pos) (bTest (dIn true) fa fb) :=
  (pt_cmp (pc_dnotin hu ha hb) hm).imp fun σ H Q h => by
    rw [bTest_is] at h
    have := in_two (test_of h)
    simp only [Bool.bne_true] at this
    exact this
end
end DL

/-! sorting tuples of any lengths, empty ones too -/
namespace DL
open PySem PySem.W PySem.Calls PyProof.Rows PySem.SeqAt
section
variable {prog : Program} {w : World} {A : Around} {s : Shared}
def hasItem : PyData → Bool
  | .tuple (_ :: _) => true
  | _ => false
theorem firsts_tups {M : Model} {E : Value → Shared → Prop} : ∀ {vs : List Value} {ds : List PyData} {Q : List (Option Value) → Shared → Prop}, EachIs (fun v d => ∃ as, Reads s.heap v d as) vs ds → (∀ d, d ∈ ds → ∃ xs, d = .tuple xs) →
    (∀ fs : List (Option Value), fs.map (·.isSome) = ds.map hasItem → Q fs s) → wpAny M A (vs.mapM firstOfTuple') Q E s
  | _, _, Q, .nil, _, h => by rw [List.mapM_nil]; exact wpAny_pure (h [] rfl)
  | _, _, Q, .cons (a := v) (as := vs) (b := d) (bs := ds) ⟨as, r⟩ t, ht, h => by
    obtain ⟨xs, rfl⟩ := ht d (List.mem_cons_self ..)
    rw [List.mapM_cons]
    refine wpAny_bind ?_
    rw [kas_first_eq]
    cases r with
    | @tuple a o vals n _ _ ho hc hd hr =>
      refine wpAny_bind (Looks.here (show Looks M s.heap (typeOf (.ref a)) o.cls from (Looks.ld ho).andThen .now) ?_)
      rw [hc, if_neg (by first | decide | simp)]
      refine wpAny_bind (listItems_at ho hd (wpAny_pure ?_))
      refine wpAny_bind (firsts_tups t (fun d hd => ht d (List.mem_cons_of_mem _ hd)) fun fs hfs => wpAny_pure (h _ ?_))
      rw [List.map_cons, List.map_cons, hfs]
      congr 1
      rw [← Array.getElem?_toList]
      cases xs with
      | nil =>
        generalize vals.toList = l at hr
        cases hr
        rfl
      | cons x xs =>
        generalize vals.toList = l at hr
        cases hr
        rfl
/-- tuple.__lt__ asked straight -/
theorem oneLt_tups {x y : Addr} {d e : List PyData} {as bs : List Addr} {E : Value → Shared → Prop} {Q : Bool → Shared → Prop} (ra : Reads s.heap (.ref x) (.tuple d) as) (rb : Reads s.heap (.ref y) (.tuple e) bs) (hal : alike (.tuple d) (.tuple e) = true)
    (hu : A.units + min (PyData.tuple d).depth (PyData.tuple e).depth < cLine) (h : Q (dataLt (.tuple d) (.tuple e)) s) : wpAny (model prog w) A (oneLt' true (.ref x) (.ref y)) Q E s := by
  have hall : alikeAll d e = true := by simpa [alike] using hal
  have room := hu
  cases ra with
  | @tuple _ o vs n _ as₁ h1 h2 h3 h4 =>
    cases rb with
    | @tuple _ o' vs' n' _ bs₁ k1 k2 k3 k4 =>
      have n1 : vs.size = d.length := by simpa using ReadsAll.length _ _ _ h4
      have n2 : vs'.size = e.length := by simpa using ReadsAll.length _ _ _ k4
      obtain ⟨cls, dd, data, sl⟩ := o
      obtain ⟨cls', dd', data', sl'⟩ := o'
      simp only at h2 h3 k2 k3
      subst h2 h3 k2 k3
      rw [oneLt'_eq]
      simp only [if_true]
      refine wpAny_bind (wpAny_cRoomFor (SeqAt.room_here hu) ?_)
      refine wpAny_bind (wpAny_callSpecialIfBound?_slot (T := "tuple") (s := s) (show s.TypeIs (.ref x) "tuple" from ⟨_, h1, rfl⟩) PySem.F.slot_tuple_lt ?_)
      rw [dataLt_tuple, ← firstLt_toks d e hall, ← n1, ← n2] at h
      refine call_meets PySem.F.slot_tuple_lt ⟨_, h1, rfl⟩ PySem.F.entry_tuple_lt (PySem.F.args_tuple_lt_2 _ _) (PySem.SeqAt.tuple_ltAt x y vs vs' n n' dd dd' sl sl' (pairEq d e) (fun j => dataLt (d.getD j .none) (e.getD j .none))) ⟨h1, k1, fun j j1 j2 => ?_, fun j j1 j2 hj => ?_, ?_⟩
      · have := eqAt_alikeAll d e A.in1 s vs.toList vs'.toList _ _ h4 k4 hall (SeqAt.room_in hu) j (by simpa using j1) (by simpa using j2)
        simpa using this
      · have := rcLt_alikeAll d e A.in1 s vs.toList vs'.toList _ _ h4 k4 hall (SeqAt.room_in hu) j (by simpa using j1) (by simpa using j2) hj
        simpa using this
      · exact wpAny_truthy_bool h
/-- the kind that list.sort finds -/
theorem kind_tups {vs : List Value} {ds : List PyData} (e : EachIs (fun v d => ∃ as, Reads s.heap v d as) vs ds) (ht : ∀ d, d ∈ ds → ∃ xs, d = .tuple xs) (hno : ∃ d, d ∈ ds ∧ hasItem d = false) :
    ∃ k : SortKind, (k = oneType' ∨ k = general') ∧ ∀ (M : Model) (E : Value → Shared → Prop) (Q : SortKind → Shared → Prop), Q k s → wpAny M A (keyKind' vs.toArray) Q E s := by
  cases ds with
  | nil => obtain ⟨d, hd, _⟩ := hno; cases hd
  | cons d₀ ds =>
    have hall : ∀ fs : List (Option Value), fs.map (·.isSome) = (d₀ :: ds).map hasItem → (fs.toArray.all fun x => x.isSome) = false := by
      intro fs hfs
      obtain ⟨d, hd, hf⟩ := hno
      have : false ∈ fs.map (·.isSome) := by rw [hfs]; exact List.mem_map.mpr ⟨d, hd, hf⟩
      obtain ⟨x, hx, hx2⟩ := List.mem_map.mp this
      rw [Bool.eq_false_iff]
      intro hA
      simp only [List.all_toArray, List.all_eq_true] at hA
      rw [hA x hx] at hx2
      cases hx2
    cases hd0 : hasItem d₀ with
    | true =>
      refine ⟨general', .inr rfl, fun M E Q q => ?_⟩
      rw [kat_kind_eq, List.mapM_toArray, map_eq_pure_bind]
      refine wpAny_bind (wpAny_bind (firsts_tups e ht fun fs hfs => wpAny_pure ?_))
      rw [if_neg (by rw [hall fs hfs]; decide)]
      cases fs with
      | nil => cases hfs
      | cons f fs =>
        rw [List.map_cons, List.map_cons, hd0] at hfs
        have hf : f.isSome = true := (List.cons.inj hfs).1
        have e0 : ((f :: fs).toArray[0]?.bind id).isSome = true := by simpa using hf
        rw [if_pos e0]
        exact wpAny_pure q
    | false =>
      refine ⟨oneType', .inl rfl, fun M E Q q => ?_⟩
      rw [kat_kind_eq, List.mapM_toArray, map_eq_pure_bind]
      refine wpAny_bind (wpAny_bind (firsts_tups e ht fun fs hfs => wpAny_pure ?_))
      rw [if_neg (by rw [hall fs hfs]; decide)]
      cases fs with
      | nil => cases hfs
      | cons f fs =>
        rw [List.map_cons, List.map_cons, hd0] at hfs
        have hf : f.isSome = false := (List.cons.inj hfs).1
        have e0 : ((f :: fs).toArray[0]?.bind id).isSome = false := by simpa using hf
        rw [if_neg (by rw [e0]; decide)]
        rw [oneTypeOnly'_eq, List.mapM_toArray, map_eq_pure_bind]
        refine wpAny_bind (wpAny_bind (wpAny_bind (kas_mapM (r := Value.type "tuple") _ (fun v hv Q' hq => ?_) (wpAny_pure ?_))))
        · obtain ⟨d, hd, as, r⟩ := e.left v hv
          obtain ⟨xs, rfl⟩ := ht d hd
          exact (looks_reads r).here hq
        · cases e with
          | cons h t =>
            rename_i v vs
            have hall2 : ((List.map (fun _ => Value.type "tuple") (v :: vs)).toArray.all fun x => x == Value.type "tuple") = true := by
              simp only [List.all_toArray, List.all_map, List.all_eq_true]
              intro _ _
              rfl
            have h0 : (List.map (fun _ => Value.type "tuple") (v :: vs)).toArray[0]? = some (Value.type "tuple") := by simp
            rw [h0]
            simp only [hall2, if_true]
            exact wpAny_pure (wpAny_pure q)
theorem keyLt_general (x y : Value) : keyLt' general' x y = oneLt' false x y := rfl
/-- values that read as tuples that are alike can be sorted -/
theorem sortsAt_tups {vs : List Value} {ds : List PyData} (e : EachIs (fun v d => ∃ as, Reads s.heap v d as) vs ds) (hal : AllAlike ds) (ht : ∀ d, d ∈ ds → ∃ xs, d = .tuple xs) (hu : ∀ d, d ∈ ds → A.units + d.depth < cLine) : SortsAt prog w A s (dataKind s.heap ds) vs := by
  by_cases hno : ∃ d, d ∈ ds ∧ hasItem d = false
  · obtain ⟨k, hk, hkd⟩ := kind_tups (A := A) e ht hno
    refine ⟨fun v hv => ?_, k, ?_, fun _ E Q q => hkd _ E Q q⟩
    · obtain ⟨d, hd, as, r⟩ := e.left v hv
      exact ⟨_, dataKind_some hal hd r⟩
    · intro E x y a b Q ha hb hq
      obtain ⟨d, as, hd, ra, rfl⟩ := dataKind_inv ha
      obtain ⟨d', as', hd', rb, rfl⟩ := dataKind_inv hb
      have hr : A.units + min d.depth d'.depth < cLine := Nat.lt_of_le_of_lt (Nat.add_le_add_left (Nat.min_le_left _ _) _) (hu d hd)
      obtain ⟨xs, rfl⟩ := ht d hd
      obtain ⟨ys, rfl⟩ := ht d' hd'
      rcases hk with rfl | rfl
      · rw [keyLt'_oneType]
        have hx : ∃ x', x = .ref x' := by cases ra; exact ⟨_, rfl⟩
        have hy : ∃ y', y = .ref y' := by cases rb; exact ⟨_, rfl⟩
        obtain ⟨x', rfl⟩ := hx
        obtain ⟨y', rfl⟩ := hy
        exact oneLt_tups ra rb (hal _ hd _ hd') hr hq
      · rw [keyLt_general]
        refine kat_one _ _ (lt_data ra rb (hal _ hd _ hd') (by simp) hr ?_)
        exact hq
  · refine SortsAt.data e hal (.inl fun d hd => ?_) hu
    obtain ⟨xs, rfl⟩ := ht d hd
    cases xs with
    | nil => exact absurd ⟨_, hd, rfl⟩ hno
    | cons x r => exact ⟨x, r, rfl⟩
end
end DL

/-! sorted(x), x a list, a tuple or a dict -/
namespace DL
open PySem PySem.Spec PyProof.Rows L2
section
open PySem.W PySem.Calls PySem.SeqAt
variable {prog : Program} {w : World} {A : Around} {s : Shared}
theorem collect_tup {l : Addr} {vs : List Value} {E : Value → Shared → Prop} {Q : List Value → Shared → Prop} (hl : s.heap.IsTuple l vs.toArray)
    (h : Q vs { s with heap := (s.heap.push (seqObj "list" #[] 0)).update s.heap.objs.size (Obj.mapSeq (· ++ vs.toArray)) }) (hsz : vs.length ≤ sizeLine := by size_fits) :
    wpAny (model prog w) A (collect (.ref l)) Q E s := by
  obtain ⟨o, ho, hc, n, hd⟩ := id hl
  unfold collect
  refine wpAny_bind (wpAny_runValue (codeAny_builtin entry_proto_collect' ?_))
  show wpAny _ _ (do again (.builtin "list.__iadd__" ⟨[← newList [], .ref l], []⟩)) _ _ s
  refine wpAny_bind (wpAny_newList (wpAny_pure ⟨Code.quiet_builtin _ (by decide +kernel), codeAny_builtin entry_list_iadd' ?_⟩))
  show wpAny _ _ (Builtin.List.listExtendWith (.ref s.heap.objs.size) (.ref l) (.ref s.heap.objs.size)) _ _ { s with heap := s.heap.push (seqObj "list" #[] 0) }
  unfold Builtin.List.listExtendWith
  have ho' : (s.heap.push (seqObj "list" #[] 0)).get? l = some o := Heap.get?_push_of_some _ ho
  refine wpAny_bind (wpAny_typeOf (T := "tuple") ⟨o, ho', hc⟩ ?_)
  have ht : (Value.type "tuple" == Value.type "tuple") = true := by rfl
  rw [if_pos (by rw [ht]; simp)]
  refine wpAny_bind (listItems_at ho' hd ?_)
  refine wpAny_bind (listItems_at (xs := #[]) (n := 0) (Heap.get?_push_size _ rfl) rfl ?_)
  rw [if_neg (by simp)]
  refine wpAny_bind (listUpdate_at (xs := #[]) (n := 0) (Heap.get?_push_size _ rfl) rfl ?_ (Nat.zero_le _) (by show (#[] ++ vs.toArray).size ≤ sizeLine + 1; simp only [Array.size_append, List.size_toArray, List.length_nil]; omega))
  refine wpAny_pure ?_
  show wpAny (model prog w) A (do
      let o ← load s.heap.objs.size
      match o.data with
      | .seq xs _ => pure xs.toList
      | _ => unsupported "internal:collect") Q E { s with heap := (s.heap.push (seqObj "list" #[] 0)).update s.heap.objs.size (Obj.mapSeq (· ++ vs.toArray)) }
  refine wpAny_bind (wpAny_load (get?_update_seq (Heap.get?_push_size _ rfl) _) ?_)
  show wpAny _ _ (pure ((#[] : Array Value) ++ vs.toArray).toList) Q E _
  rw [show ((#[] : Array Value) ++ vs.toArray).toList = vs by simp]
  exact wpAny_pure h
/-- sorted(x) of what can be collected -/
theorem sorted_gen {β : Type} {bs : List β} {enc : β → PyData} {R : Value → β → Prop} {E : Value → Shared → Prop} {x : Value} {Q : Value → Shared → Prop}
    (hc : ∀ (E' : Value → Shared → Prop) (Q' : List Value → Shared → Prop), (∀ vs h1 tk, (∀ b o, s.heap.get? b = some o → h1.get? b = some o) → EachIs R vs bs → Q' vs { s with heap := h1, toks := tk }) → wpAny (model prog w) A.in1 (collect x) Q' E' s)
    (hr : ∀ v b, R v b → ∃ as, Reads s.heap v (enc b) as) (hal : AllAlike (bs.map enc))
    (hk : Sortable (bs.map enc) ∨ ∀ d, d ∈ bs.map enc → ∃ xs, d = .tuple xs) (hL : bs.length ≤ sizeLine) (hu : ∀ b, b ∈ bs → A.units + 2 + (enc b).depth < cLine)
    (h : ∀ out d (h1 h2 : Heap) tk, (∀ b o, s.heap.get? b = some o → h1.get? b = some o) → (∀ b o, h1.get? b = some o → h2.get? b = some o) → h1.objs.size ≤ d → (∃ c, h2.get? d = some (seqObj "list" (List.toArray out) c)) → EachIs R out (bs.mergeSort (dataLe false enc)) → Q (.ref d) { s with heap := h2, toks := tk }) :
    wpAny (model prog w) A (call (.builtin "sorted") [x]) Q E s := by
  refine Calls.call_function_entry kind_sorted plain_sorted entry_sorted (args_sorted1 _) ?_
  unfold Builtin.«sorted»
  refine wpAny_bind (m := checkCount "sorted" 1 1 _) (wpAny_pure ?_)
  refine wpAny_bind (hc _ _ fun vs h1 tk keep e => ?_)
  have hlv : vs.length = bs.length := e.length
  refine wpAny_bind (wpAny_newList ?_ (by rw [hlv]; exact hL))
  have hoL : (h1.push (seqObj "list" vs.toArray 0)).get? h1.objs.size = some (seqObj "list" vs.toArray 0) := Heap.get?_push_size _ rfl
  have old : ∀ b o, s.heap.get? b = some o → b ≠ h1.objs.size ∧ (h1.push (seqObj "list" vs.toArray 0)).get? b = some o := fun b o q => by
    have q1 := keep b o q
    exact ⟨Nat.ne_of_lt (Heap.lt_size q1), Heap.get?_push_of_some _ q1⟩
  show wpAny _ _ _ _ _ { s with heap := h1.push (seqObj "list" vs.toArray 0), toks := tk }
  have er : EachIs (fun v b => ∃ as, Reads (sortingHeap (h1.push (seqObj "list" vs.toArray 0)) h1.objs.size vs) v (enc b) as) vs bs := e.mono fun v b q => by
    obtain ⟨as, r⟩ := hr v b q
    exact ⟨as, PyProof.Rows.Reads.keeps (fun b o z => sortingHeap_old (old b o z).1 (old b o z).2) r⟩
  have S : SortsAt prog w A.in1.in1 { s with heap := sortingHeap (h1.push (seqObj "list" vs.toArray 0)) h1.objs.size vs, toks := tk } (dataKind (sortingHeap (h1.push (seqObj "list" vs.toArray 0)) h1.objs.size vs) (bs.map enc)) vs := by
    have e2 := each_map (R := fun v d => ∃ as, Reads (sortingHeap (h1.push (seqObj "list" vs.toArray 0)) h1.objs.size vs) v d as) enc er
    have hu2 : ∀ d, d ∈ bs.map enc → A.in1.in1.units + d.depth < cLine := bound_map hu
    rcases hk with hk | hk
    · exact SortsAt.data (s := { s with heap := sortingHeap (h1.push (seqObj "list" vs.toArray 0)) h1.objs.size vs, toks := tk }) e2 hal hk hu2
    · exact sortsAt_tups (s := { s with heap := sortingHeap (h1.push (seqObj "list" vs.toArray 0)) h1.objs.size vs, toks := tk }) e2 hal hk hu2
  refine wpAny_bind (wpAny_holding (wpAny_call_entry slot_list_sort ⟨_, hoL, rfl⟩ entry_list_sort (list_sort_vals (s := { s with heap := h1.push (seqObj "list" vs.toArray 0), toks := tk }) hoL S (by rw [hlv]; exact hL) ⟨_, rfl, ?_⟩) (args_list_sort _)))
  refine wpAny_pure ⟨_, rfl, ?_⟩
  refine h _ h1.objs.size h1 _ tk keep (fun b o q => ?_) (Nat.le_refl _) (PyProof.Rows.sortedHeap_at (vs := vs) (out := (List.toArray _)) hoL) (sortVals_data false e er hal)
  have q2 : (h1.push (seqObj "list" vs.toArray 0)).get? b = some o := Heap.get?_push_of_some _ q
  rw [PyProof.Rows.sortedHeap_old (Nat.ne_of_lt (Heap.lt_size q)) (Heap.lt_size q2)]
  exact q2
end
/-! ### data -/
def D.le (x y : D) : Bool := !D.lt y x
def sortD (xs : List D) : List D := xs.mergeSort D.le
/-- these can be sorted -/
structure SortOk (xs : List D) : Prop where
  len : xs.length ≤ sizeLine
  pl : ∀ x ∈ xs, x.pl 50 = true
  al : ∀ x ∈ xs, ∀ y ∈ xs, PySem.W.alike x.py y.py = true
  kd : (∀ x ∈ xs, ∃ ys, x = .tup ys) ∨ ∀ x ∈ xs, x ≠ .non ∧ (∀ ys, x ≠ .tup ys) ∧ ∀ ys, x ≠ .con ys
theorem SortOk.kind {xs : List D} (h : SortOk xs) : PySem.W.Sortable (xs.map D.py) ∨ ∀ d, d ∈ xs.map D.py → ∃ ys, d = .tuple ys := by
  rcases h.kd with k | k
  · refine .inr fun d hd => ?_
    obtain ⟨x, hx, rfl⟩ := List.mem_map.mp hd
    obtain ⟨ys, rfl⟩ := k x hx
    exact ⟨D.pys ys, by simp [D.py]⟩
  · refine .inl (.inr fun d hd => ?_)
    obtain ⟨x, hx, rfl⟩ := List.mem_map.mp hd
    have hp := h.pl x hx
    obtain ⟨k1, k2, k3⟩ := k x hx
    cases x with
    | non => exact absurd rfl k1
    | tup ys => exact absurd rfl (k2 ys)
    | obj _ => simp [D.pl] at hp
    | dct _ _ => simp [D.pl] at hp
    | err _ _ => simp [D.pl] at hp
    | exn _ _ _ => simp [D.pl] at hp
    | con ys => exact absurd rfl (k3 ys)
    | bl b => exact ⟨by simp [D.py], by simp [D.py]⟩
    | int b => exact ⟨by simp [D.py], by simp [D.py]⟩
    | str b => exact ⟨by simp [D.py], by simp [D.py]⟩
    | lst b => exact ⟨by simp [D.py], by simp [D.py]⟩
theorem SortOk.alike {xs : List D} (h : SortOk xs) : PySem.W.AllAlike (xs.map D.py) := by
  intro d hd d' hd'
  obtain ⟨x, hx, rfl⟩ := List.mem_map.mp hd
  obtain ⟨y, hy, rfl⟩ := List.mem_map.mp hd'
  exact h.al x hx y hy
/-- the value stands for the data -/
def IsD0 (K : PySem.W.Frag) (G : Hp) (v : Value) (d : D) : Prop := ∃ x : V, RelV x v ∧ Rep K G d x
theorem each_rep {K : PySem.W.Frag} {G : Hp} : ∀ {vs : List Value} {ds : List D}, PySem.W.EachIs (IsD0 K G) vs ds → ∃ xs : List V, Vals xs vs ∧ RepL K G ds xs
  | _, _, .nil => ⟨[], .nil, rfl⟩
  | _, _, .cons ⟨x, r, h⟩ t => by
    obtain ⟨xs, r2, h2⟩ := each_rep t
    exact ⟨x :: xs, .cons r r2, x, xs, rfl, h, h2⟩
theorem rep_each {K : PySem.W.Frag} {G : Hp} : ∀ {ds : List D} {xs : List V} {vs : List Value}, RepL K G ds xs → Vals xs vs → PySem.W.EachIs (IsD0 K G) vs ds
  | [], xs, vs, h, r => by
    have h : xs = [] := h
    subst h
    cases r
    exact .nil
  | d :: ds, xs, vs, ⟨x, xr, e, h1, h2⟩, r => by
    subst e
    cases r with
    | cons a b => exact .cons ⟨x, a, h1⟩ (rep_each h2 b)
section
variable {X : Cx} {W : WX}
/-- what can be collected from a -/
def CollOk (X : Cx) (pins : List (Addr × Obj)) (σ : L2.St) (H : Hp) (s : Shared) (a : Addr) (ds : List D) (G : Hp) : Prop :=
  Sub G H ∧ ∀ (E' : Value → Shared → Prop) (Q' : List Value → Shared → Prop), (∀ vs h1 tk, (∀ b o, s.heap.get? b = some o → h1.get? b = some o) → PySem.W.EachIs (IsD0 X.K G) vs ds → Q' vs { s with heap := h1, toks := tk }) → wpAny (model X.prog X.w) X.A.in1 (collect (.ref a)) Q' E' s
theorem isd_reads {pins : List (Addr × Obj)} {σ : L2.St} {H : Hp} {s : Shared} (I : Inv X pins σ H s) {G : Hp} (sg : Sub G H) {v : Value} {d : D} (hp : d.pl 50 = true) (h : IsD0 X.K G v d) : ∃ as, Reads s.heap v d.py as := by
  obtain ⟨x, r, h⟩ := h
  exact Dp.reads I d.py x v (Rep.dp d 50 x hp (h.mono sg)) r
theorem sort_rule {pins : List (Addr × Obj)} {σ : L2.St} {H : Hp} {s : Shared} {a : Addr} {ds : List D} {G : Hp} {Q : VK} (hu : X.A.units + 64 < cLine) (I : Inv X pins σ H s) (hc : CollOk X pins σ H s a ds G) (ok : SortOk ds)
    (q : ∀ p ys, H p = none → RepL X.K G (sortD ds) ys → Q (.ref p) (upd H p (.lst ys))) : wpAny (model X.prog X.w) X.A (call (.builtin "sorted") [.ref a]) (EP X pins σ Q) X.xe s := by
  obtain ⟨sg, hc⟩ := hc
  have key : ∀ v d, (IsD0 X.K G v d ∧ d ∈ ds) → ∃ as, Reads s.heap v d.py as := fun v d h => isd_reads I sg (ok.pl d h.2) h.1
  refine sorted_gen (R := fun v d => IsD0 X.K G v d ∧ d ∈ ds) (enc := D.py) (bs := ds) (fun E' Q' hq => hc E' Q' fun vs h1 tk k e => hq vs h1 tk k (PySem.W.each_mem e)) key ok.alike ok.kind ok.len (fun b hb => ?_) fun out d h1 h2 tk keep keep2 hd hat e => ?_
  · have := (py_can b 50 (ok.pl b hb)).2
    omega
  · obtain ⟨ys, r1, r2⟩ := each_rep (e.mono fun v d z => z.1)
    obtain ⟨c, hat⟩ := hat
    have hlen : ys.length ≤ sizeLine := by
      rw [r2.length, List.length_mergeSort]
      exact ok.len
    exact ⟨.ref d, upd H d (.lst ys), (I.kept (t' := tk) keep).laid (t' := tk) keep2 hd ⟨hlen, out, c, r1, hat⟩, rfl, q d ys ((I.kept (t' := tk) keep).hok.fresh hd) r2⟩
/-- lists, tuples -/
def SrcSeq (K : PySem.W.Frag) (H : Hp) (a : Addr) (ds : List D) (G : Hp) : Prop := Sub G H ∧ ∃ vs, (SqL K H a vs ∨ SqT K H a vs) ∧ RepL K G ds vs
theorem coll_seq {pins : List (Addr × Obj)} {σ : L2.St} {H : Hp} {s : Shared} {a : Addr} {ds : List D} {G : Hp} (I : Inv X pins σ H s) (h : SrcSeq X.K H a ds G) : CollOk X pins σ H s a ds G := by
  obtain ⟨sg, vs, h1, h2⟩ := h
  refine ⟨sg, fun E' Q' hq => ?_⟩
  rcases h1 with h1 | h1
  · obtain ⟨its, rv, p, hz⟩ := I.list h1
    refine collect_list p.isList (hq its _ _ (fun b o e => ?_) (rep_each h2 rv)) (by rw [← rv.length]; exact hz)
    rw [Heap.get?_update_ne _ _ _ _ (Nat.ne_of_lt (Heap.lt_size e))]
    exact Heap.get?_push_of_some _ e
  · obtain ⟨its, rv, p, hz⟩ := I.tuple h1
    refine collect_tup p (hq its _ _ (fun b o e => ?_) (rep_each h2 rv)) (by rw [← rv.length]; exact hz)
    rw [Heap.get?_update_ne _ _ _ _ (Nat.ne_of_lt (Heap.lt_size e))]
    exact Heap.get?_push_of_some _ e
/-- dicts of numbers and texts -/
theorem coll_dK {pins : List (Addr × Obj)} {σ : L2.St} {H : Hp} {s : Shared} {a : Addr} {kvs : List (Key × V)} {G : Hp} (hcalm : X.calm = true) (I : Inv X pins σ H s) (sg : Sub G H) (hd : Rd H a (.dK kvs)) : CollOk X pins σ H s a (kvs.map fun p => keyD p.1) G := by
  refine ⟨sg, fun E' Q' hq => ?_⟩
  obtain ⟨z, lo, vs, rel, dd⟩ := dk_rd I.hok hd
  obtain ⟨ep, hat⟩ := dd.dictAt
  have hl : vs.length = kvs.length := by
    have e := congrArg List.length rel.keys
    rw [List.length_map, List.length_map] at e
    exact e.symm
  refine PySem.W.kdu_collect (A := X.A.in1) (PySem.W.kdl_dict (knd := mixKind X.prog X.w) (kvs := vs) (ep := ep) lo) (I.ok.hd hcalm) hat (by rw [hl]; exact z) fun h' tk acc hk hacc => ?_
  refine hq _ _ _ hk ?_
  have hal : acc.toList.length = kvs.length := by rw [Array.length_toList, hacc.1, hl]
  have e1 : (kvs.map fun p => keyD p.1) = (kvs.map (·.1)).map keyD := by rw [List.map_map]; rfl
  rw [e1, rel.keys]
  refine rep_each (xs := (vs.map (·.1)).map kV) ?_ (vals_of_at (by rw [List.length_map, List.length_map, hal, hl]) fun j x w h1 h2 => ?_)
  · generalize vs.map (·.1) = ks
    induction ks with
    | nil => rfl
    | cons k ks ih => exact ⟨kV k, ks.map kV, rfl, by cases k <;> rfl, ih⟩
  · obtain ⟨k, y, hky, hi⟩ := hacc.2 j w (by rw [← Array.getElem?_toList]; exact h2)
    rw [List.getElem?_map, List.getElem?_map, hky] at h1
    cases h1
    exact keyIs_rel hi
/-- dicts of tuples -/
theorem coll_dT {pins : List (Addr × Obj)} {σ : L2.St} {H : Hp} {s : Shared} {a : Addr} {kvs : List (List Key × V)} (hcalm : X.calm = true) (I : Inv X pins σ H s) (hd : Rd H a (.dT kvs)) :
    ∃ bs : List Addr, (∀ b ∈ bs, ∃ vs, H b = some (.tup vs)) ∧ ∀ G, Sub G H → (∀ b ∈ bs, G b = H b) → CollOk X pins σ H s a (kvs.map fun p => keyT p.1) G := by
  obtain ⟨z, hs, ks, pr, o, es, ep, ho, hx, hdt, he, hn⟩ := (show ObjOk X.prog X.w H s.heap a (.dT kvs) from hd.ok I.hok)
  have l1 : es.size = ks.length := size_of_entries he
  have l2 : kvs.length = ks.length := Paired.length pr
  have ik := isKeys_of pr
  refine ⟨ks.map fun x => x.2.1, ?_, fun G sg hG => ⟨sg, fun E' Q' hq => ?_⟩⟩
  · intro b hb
    unfold IsKeys at ik
    have : ∀ {l : List (List Key × V)} {m : List Addr}, Paired (fun p b => H b = some (.tup (p.1.map kV))) l m → ∀ b ∈ m, ∃ vs, H b = some (.tup vs) := by
      intro l m q
      induction q with
      | nil => intro b hb; cases hb
      | cons h t ih =>
        intro b hb
        rcases List.mem_cons.mp hb with e | hb
        · subst e; exact ⟨_, h⟩
        · exact ih b hb
    exact this ik b hb
  · refine PySem.W.kdu_collect (A := X.A.in1) (kdl_raw hs hx hdt) (I.ok.hd hcalm) ho (by omega) fun h' tk acc' kp it => ?_
    refine hq _ _ _ kp ?_
    have ea : acc'.toList = ks.map fun x => Value.ref x.2.1 := by
      have hl : acc'.toList.length = ks.length := by rw [Array.length_toList, it.1]; exact l1
      apply List.ext_getElem?
      intro j
      rw [List.getElem?_map]
      cases hj : acc'.toList[j]? with
      | none =>
        have h1 := List.getElem?_eq_none_iff.mp hj
        rw [List.getElem?_eq_none (by omega)]
        all_goals rfl
      | some v =>
        obtain ⟨en, hen, hv⟩ := it.2 j v (by rw [← Array.getElem?_toList]; exact hj)
        have qe := entry_at he j
        rw [hen] at qe
        cases hb : ks[j]? with
        | none =>
          rw [hb] at qe
          exact nomatch (show some en = none from qe)
        | some b =>
          rw [hb] at qe
          have e2 : en = entryOfKey (tupleKind (mixKind X.prog X.w)) b := Option.some.inj qe
          rw [hv, e2]
          rfl
    rw [ea]
    have gen : ∀ {l : List (List Key × V)} {m : List (List Key × Addr × Value)}, Paired (fun p b => H b = some (.tup (p.1.map kV))) l (m.map fun x => x.2.1) → (∀ x ∈ m, G x.2.1 = H x.2.1) → RepL X.K G (l.map fun p => keyT p.1) (m.map fun x => V.ref x.2.1) := by
      intro l
      induction l with
      | nil => intro m q _; cases m with
        | nil => rfl
        | cons x m => cases q
      | cons p l ih =>
        intro m q hm
        cases m with
        | nil => cases q
        | cons x m =>
          cases q with
          | cons h t =>
            refine ⟨V.ref x.2.1, m.map fun x => V.ref x.2.1, rfl, ⟨x.2.1, p.1.map kV, rfl, ?_, ?_⟩, ih t fun y hy => hm y (List.mem_cons_of_mem _ hy)⟩
            · rw [hm x List.mem_cons_self]; exact h
            · generalize p.1 = ks'
              induction ks' with
              | nil => rfl
              | cons k ks' ih => exact ⟨kV k, ks'.map kV, rfl, by cases k <;> rfl, ih⟩
    refine rep_each (gen ik fun x hx => hG _ (List.mem_map.mpr ⟨x, hx, rfl⟩)) ?_
    have e3 : (ks.map fun x => V.ref x.2.1) = (ks.map fun x => x.2.1).map V.ref := by rw [List.map_map]; rfl
    have e4 : (ks.map fun x => Value.ref x.2.1) = (ks.map fun x => x.2.1).map Value.ref := by rw [List.map_map]; rfl
    rw [e3, e4]
    exact vals_refs _
/-- what a walk over the data yields -/
def D.items : D → Option (List D)
  | .lst xs => some xs
  | .tup xs => some xs
  | .dct _ kvs => some (kvs.map (·.1))
  | _ => none
open Classical in
noncomputable def dSorted : D → Res D := fun d => match d.items with
  | some xs => if SortOk xs then .ok (.lst (sortD xs)) else .bad
  | none => .bad
def rSorted0 (X : Cx) : List V → Hp → VK → Prop := fun xs H Q => ∃ (a : Addr) (ds : List D), xs = [V.ref a] ∧ SortOk ds ∧
  ((∃ G, SrcSeq X.K H a ds G ∧ ∀ p ys, H p = none → RepL X.K G (sortD ds) ys → Q (.ref p) (upd H p (.lst ys))) ∨
   (∃ kvs, Rd H a (.dK kvs) ∧ ds = kvs.map (fun p => keyD p.1) ∧ ∃ G, Sub G H ∧ ∀ p ys, H p = none → RepL X.K G (sortD ds) ys → Q (.ref p) (upd H p (.lst ys))) ∨
   (∃ kvs, Rd H a (.dT kvs) ∧ ds = kvs.map (fun p => keyT p.1) ∧ ∀ (bs : List Addr) G, (∀ b ∈ bs, ∃ vs, H b = some (.tup vs)) → Sub G H → (∀ b o, G b = some o → b ∈ bs) → ∀ p ys, H p = none → RepL X.K G (sortD ds) ys → Q (.ref p) (upd H p (.lst ys))))
open Classical in
theorem cr_sorted0 (hcalm : X.calm = true) (hu : X.A.units + 64 < cLine) : CallR X (.builtin "sorted") (rSorted0 X) := by
  intro pins s σ H xs us Q I r h
  obtain ⟨a, ds, rfl, ok, h⟩ := h
  obtain ⟨u, rfl, ru⟩ := vals1 r
  obtain rfl : u = Value.ref a := ru
  rcases h with ⟨G, h1, q⟩ | ⟨kvs, h1, rfl, G, sg, q⟩ | ⟨kvs, h1, rfl, q⟩
  · exact sort_rule hu I (coll_seq I h1) ok q
  · exact sort_rule hu I (coll_dK hcalm I sg h1) ok q
  · obtain ⟨bs, b1, b2⟩ := coll_dT hcalm I h1
    have hG : Sub (fun b => if b ∈ bs then H b else none) H := fun b o e => by
      dsimp only at e
      split at e
      · exact e
      · cases e
    refine sort_rule hu I (b2 (fun b => if b ∈ bs then H b else none) hG fun b hb => if_pos hb) ok (q bs _ b1 hG fun b o e => ?_)
    split at e
    · assumption
    · cases e
open Classical in
theorem c1_sorted (hcalm : X.calm = true) (hu : X.A.units + 64 < cLine) : Call1F X W (.builtin "sorted") dSorted := by
  refine ⟨_, cr_sorted0 hcalm hu, fun σ H G x dx Q sg rx p => ?_⟩
  unfold dSorted at p
  cases hi : dx.items with
  | none => rw [hi] at p; exact p.elim
  | some ds =>
    rw [hi] at p
    dsimp only at p
    by_cases ok : SortOk ds
    · rw [if_pos ok] at p
      have fin : ∀ G2, Ext H G H G2 → ∀ q ys, H q = none → RepL X.K G2 (sortD ds) ys → Q (.ref q) (upd H q (.lst ys)) := fun G2 x2 q ys hq r =>
        p (upd H q (.lst ys)) G2 ⟨x2.hh.trans (Sub.upd hq), x2.gg, x2.gh.trans (Sub.upd hq), x2.new⟩ q hq (x2.gh.free hq) ⟨ys, upd_same, r⟩
      cases dx with
      | lst xs =>
        cases hi
        obtain ⟨a, vs, rfl, s, r⟩ := rx
        exact ⟨a, _, rfl, ok, .inl ⟨G, ⟨sg, vs, .inl s, r⟩, fin G (Ext.refl sg)⟩⟩
      | tup xs =>
        cases hi
        obtain ⟨a, vs, rfl, s, r⟩ := (show Rep X.K G (.tup _) x from rx)
        exact ⟨a, _, rfl, ok, .inl ⟨G, ⟨sg, vs, .inr (sg.pt s), r⟩, fin G (Ext.refl sg)⟩⟩
      | dct t kvs =>
        cases hi
        obtain ⟨a, rfl, h⟩ := rx
        rcases h with ⟨t0, ps, s, hkeys, rv⟩ | ⟨t0, ps, s, hkeys, rv⟩
        · exact ⟨a, _, rfl, ok, .inr (.inl ⟨ps, s, hkeys, G, sg, fin G (Ext.refl sg)⟩)⟩
        · refine ⟨a, _, rfl, ok, .inr (.inr ⟨ps, s, hkeys, fun bs G1 hb sg1 hG1 q ys hq r => ?_⟩)⟩
          have s2 : Sub G (fun b => if b ∈ bs then H b else G b) := fun b o e => by
            dsimp only
            by_cases hbb : b ∈ bs
            · rw [if_pos hbb]; exact sg _ _ e
            · rw [if_neg hbb]; exact e
          have s3 : Sub G1 (fun b => if b ∈ bs then H b else G b) := fun b o e => by
            dsimp only
            rw [if_pos (hG1 b o e)]; exact sg1 _ _ e
          have s4 : Sub (fun b => if b ∈ bs then H b else G b) H := fun b o e => by
            dsimp only at e
            by_cases hbb : b ∈ bs
            · rw [if_pos hbb] at e; exact e
            · rw [if_neg hbb] at e; exact sg _ _ e
          refine fin _ ⟨Sub.refl H, s2, s4, fun b e => ?_⟩ q ys hq (r.mono s3)
          by_cases hbb : b ∈ bs
          · exact .inr (.inr (hb b hbb))
          · rw [if_neg hbb] at e; exact .inl e
      | _ => cases hi
    · rw [if_neg ok] at p; exact p.elim
end
end DL

/-! rules that look at the data: index, in, is, slices with a step, methods -/
namespace DL
open PySem PySem.Spec PyProof.Rows L2
open PySem.Builtin.Int (intBits)
section
variable {X : Cx} {W : WX} {A : Nat → Prop} {a b c ex : Expr} {pos p p1 p2 apos cpos : Pos}
/-- either of two readings, as the data say -/
theorem de_pick {f f1 f2 : DL.Env → Res D} (h1 : DE X W A ex f1) (h2 : DE X W A ex f2) (hf : ∀ e, f e = f1 e ∨ f e = f2 e ∨ f e = .bad) : DE X W A ex f :=
  ⟨fun pins s σ H Q I ⟨e, G, E, q⟩ => by
    rcases hf e with z | z | z
    · rw [z] at q; exact h1.run pins s σ H Q I ⟨e, G, E, q⟩
    · rw [z] at q; exact h2.run pins s σ H Q I ⟨e, G, E, q⟩
    · rw [z] at q; exact q.elim⟩
theorem dt_pick {f f1 f2 : DL.Env → Res Bool} (h1 : DT X W A ex f1) (h2 : DT X W A ex f2) (hf : ∀ e, f e = f1 e ∨ f e = f2 e ∨ f e = .bad) : DT X W A ex f :=
  ⟨fun pins s σ H Q I ⟨e, G, E, q⟩ => by
    rcases hf e with z | z | z
    · rw [z] at q; exact h1.run pins s σ H Q I ⟨e, G, E, q⟩
    · rw [z] at q; exact h2.run pins s σ H Q I ⟨e, G, E, q⟩
    · rw [z] at q; exact q.elim⟩
theorem eOp_pick {g g1 g2 : D → D → Res D} {fa fb : DL.Env → Res D} (h : ∀ x y, g x y = g1 x y ∨ g x y = g2 x y ∨ g x y = .bad) (e : DL.Env) : eOp g fa fb e = eOp g1 fa fb e ∨ eOp g fa fb e = eOp g2 fa fb e ∨ eOp g fa fb e = .bad := by
  unfold eOp
  cases ha : fa e with
  | ok x =>
    cases hb : fb e with
    | ok y => exact h x y
    | exc _ _ => exact .inl rfl
    | bad => exact .inl rfl
  | exc _ _ => exact .inl rfl
  | bad => exact .inl rfl
theorem bTest_pick {g g1 g2 : D → D → Res D} {fa fb : DL.Env → Res D} (h : ∀ x y, g x y = g1 x y ∨ g x y = g2 x y ∨ g x y = .bad) (e : DL.Env) : bTest g fa fb e = bTest g1 fa fb e ∨ bTest g fa fb e = bTest g2 fa fb e ∨ bTest g fa fb e = .bad := by
  unfold bTest
  cases ha : fa e with
  | ok x =>
    cases hb : fb e with
    | ok y =>
      rcases h x y with z | z | z
      · exact .inl (by simp only [Res.bind_ok, z])
      · exact .inr (.inl (by simp only [Res.bind_ok, z]))
      · exact .inr (.inr (by simp only [Res.bind_ok, z, Res.bind_bad]))
    | exc _ _ => exact .inl rfl
    | bad => exact .inl rfl
  | exc _ _ => exact .inl rfl
  | bad => exact .inl rfl
/-! ### x[k] of any kind -/
noncomputable def dIxA (x y : D) : Res D := match x with
  | .dct t kvs => dAt (.dct t kvs) y
  | x => dIx x y
theorem de_ixA {fa fb : DL.Env → Res D} (hu : X.A.units + 1 < cLine) (ha : DR X W A a fa) (hb : DE X W A b fb) (hs : NoSl b) (hs2 : PlainIx b) : DE X W A (.Subscript a b pos) (eOp dIxA fa fb) :=
  de_pick (de_dix hu ha hb hs) (de_ix ha (dr hb) hs2) (eOp_pick fun x y => by cases x <;> first | exact .inl rfl | exact .inr (.inl rfl))
/-! ### is -/
def dIs : D → D → Res D
  | .bl a, .bl b => .ok (.bl (decide (a = b)))
  | .obj _, .non => .bad
  | .non, .non => .ok (.bl true)
  | _, .non => .ok (.bl false)
  | _, _ => .bad
theorem non_rep {K : PySem.W.Frag} {H G : Hp} {d : D} {v : V} (h : ∀ u, d ≠ .obj u) (r : RepC K H G d v) : decide (v = .non) = (match d with | .non => true | _ => false) := by
  cases d with
  | non => exact decide_eq_true r
  | bl b => exact decide_eq_false (by rw [show v = _ from r]; simp)
  | int b => exact decide_eq_false (by rw [show v = _ from r]; simp)
  | str b => exact decide_eq_false (by rw [show v = _ from r]; simp)
  | obj u => exact absurd rfl (h u)
  | tup _ => obtain ⟨a, vs, e, _⟩ := (show Rep K G (.tup _) v from r); subst e; rfl
  | con _ => obtain ⟨a, vs, e, _⟩ := (show Rep K G (.con _) v from r); subst e; rfl
  | lst _ => obtain ⟨a, vs, e, _⟩ := r; subst e; rfl
  | dct _ _ => obtain ⟨a, e, _⟩ := r; subst e; rfl
  | err _ _ => obtain ⟨a, C, e, _⟩ := (show Rep K G (.err _ _) v from r); subst e; rfl
  | exn _ _ _ => obtain ⟨e, _⟩ := (show Rep K G (.exn _ _ _) v from r); subst e; rfl
theorem od_is : OpD X W (compareOp .Is) dIs := by
  refine ⟨_, OpR.or op_isBl op_isN, fun σ H G x y dx dy Q sg rx ry p => ?_⟩
  cases dy with
  | bl b =>
    cases dx with
    | bl a => exact .inl ⟨a, b, rx, ry, PostG.val (d := .bl (decide (a = b))) p sg rfl⟩
    | _ => exact (show False from p).elim
  | non =>
    have hy : y = .non := ry
    refine .inr ⟨hy, ?_⟩
    by_cases ho : ∃ u, dx = .obj u
    · obtain ⟨u, rfl⟩ := ho
      exact (show False from p).elim
    · rw [non_rep (fun u z => ho ⟨u, z⟩) rx]
      cases dx with
      | obj u => exact absurd ⟨u, rfl⟩ ho
      | non => exact PostG.val (d := .bl true) p sg rfl
      | _ => exact PostG.val (d := .bl false) p sg rfl
  | _ => cases dx <;> exact (show False from p).elim
/-! ### in, of lists, tuples and texts -/
def D.has (xs : List D) (k : D) : Bool := xs.any fun z => D.beq z k
def strIn (k s : Str) : Bool := !(Builtin.Str.occurrences s k 0 s.length 1).isEmpty
def dInS (no : Bool) : D → D → Res D := fun k c => match c with
  | .lst xs => if k.pl 50 = true ∧ D.pls xs 50 = true then .ok (.bl (D.has xs k != no)) else .bad
  | .tup xs => if k.pl 50 = true ∧ D.pls xs 50 = true then .ok (.bl (D.has xs k != no)) else .bad
  | .con xs => if k.pl 50 = true ∧ D.pls xs 50 = true then .ok (.bl (D.has xs k != no)) else .bad
  | .str s => match k with
    | .str k => .ok (.bl (strIn k s != no))
    | _ => .bad
  | _ => .bad
def rInT (K : PySem.W.Frag) (no : Bool) : R2 := fun x y H Q => ∃ d ds, Dp K H x d ∧ Dp K H y (.tuple ds) ∧ SeqAt.shaped d = true ∧ SeqAt.shaped (.tuple ds) = true ∧ Q (.bl ((ds.any fun z => PyData.eqv z d) != no)) H
theorem op_notInT (hu : X.A.units + 65 < cLine) : OpR X (compareOp .NotIn) (rInT X.K true) := by
  intro pins s σ H x y v u Q I rx ry h
  obtain ⟨d, ds, hd, he, sd, se, q⟩ := h
  obtain ⟨as, r1⟩ := Dp.reads I d x v hd rx
  obtain ⟨bs, r2⟩ := Dp.reads I (.tuple ds) y u he ry
  rw [Bool.bne_true] at q
  exact SeqAt.notIn_tuple_reads r2 r1 (SeqAt.canLay_of_shaped se) (SeqAt.canLay_of_shaped sd) (room_in_shaped sd hu) ⟨.bl _, H, I, rfl, q⟩
theorem any_pys (k : D) : ∀ xs : List D, ((D.pys xs).any fun z => PyData.eqv z k.py) = D.has xs k
  | [] => rfl
  | x :: xs => by
    unfold D.has
    rw [D.pys, List.any_cons, List.any_cons, any_pys k xs]
    rfl
theorem shaped_pyL {xs : List D} (h : D.pls xs 50 = true) : SeqAt.shaped (.list (D.pys xs)) = true := by
  have := shaped_py (d := .lst xs) (n := 51) (by simpa [D.pl] using h) (by decide)
  simpa [D.py] using this
theorem shaped_pyT {xs : List D} (h : D.pls xs 50 = true) : SeqAt.shaped (.tuple (D.pys xs)) = true := by
  have := shaped_py (d := .tup xs) (n := 51) (by simpa [D.pl] using h) (by decide)
  simpa [D.py] using this
theorem od_inS_gen {op : CmpOp} (no : Bool) (o1 : OpR X (compareOp op) fun x y H Q => ∃ d ds, Dp X.K H x d ∧ Dp X.K H y (.list ds) ∧ SeqAt.shaped d = true ∧ SeqAt.shaped (.list ds) = true ∧ Q (.bl ((ds.any fun z => PyData.eqv z d) != no)) H)
    (o2 : OpR X (compareOp op) (rInT X.K no)) (o3 : OpR X (compareOp op) fun x y H Q => ∃ i j, x = .str i ∧ y = .str j ∧ Q (.bl (strIn i j != no)) H) : OpD X W (compareOp op) (dInS no) := by
  refine ⟨_, OpR.or o1 (OpR.or o2 o3), fun σ H G x y dk dc Q sg rx ry p => ?_⟩
  cases dc with
  | lst xs =>
    dsimp only [dInS] at p
    by_cases hc : dk.pl 50 = true ∧ D.pls xs 50 = true
    · rw [if_pos hc] at p
      refine .inl ⟨dk.py, D.pys xs, Rep.dp dk 50 x hc.1 (rx.all sg (pl_nd hc.1)), ?_, shaped_py hc.1 (by decide), shaped_pyL hc.2, ?_⟩
      · obtain ⟨a, vs, rfl, s, r⟩ := ry
        exact .lst s (RepL.dp xs 50 vs hc.2 (r.mono sg))
      · rw [any_pys]; exact p.val sg rfl
    · rw [if_neg hc] at p; exact p.elim
  | tup xs =>
    dsimp only [dInS] at p
    by_cases hc : dk.pl 50 = true ∧ D.pls xs 50 = true
    · rw [if_pos hc] at p
      refine .inr (.inl ⟨dk.py, D.pys xs, Rep.dp dk 50 x hc.1 (rx.all sg (pl_nd hc.1)), ?_, shaped_py hc.1 (by decide), shaped_pyT hc.2, ?_⟩)
      · obtain ⟨a, vs, rfl, s, r⟩ := (show Rep X.K G (.tup xs) y from ry)
        exact .tup (sg.pt s) (RepL.dp xs 50 vs hc.2 (r.mono sg))
      · rw [any_pys]; exact p.val sg rfl
    · rw [if_neg hc] at p; exact p.elim
  | con xs =>
    dsimp only [dInS] at p
    by_cases hc : dk.pl 50 = true ∧ D.pls xs 50 = true
    · rw [if_pos hc] at p
      refine .inr (.inl ⟨dk.py, D.pys xs, Rep.dp dk 50 x hc.1 (rx.all sg (pl_nd hc.1)), ?_, shaped_py hc.1 (by decide), shaped_pyT hc.2, ?_⟩)
      · obtain ⟨a, vs, rfl, s, r⟩ := (show Rep X.K G (.con xs) y from ry)
        exact .tup (sg.sqt s.sqt) (RepL.dp xs 50 vs hc.2 (r.mono sg))
      · rw [any_pys]; exact p.val sg rfl
    · rw [if_neg hc] at p; exact p.elim
  | str s =>
    cases dk with
    | str k => exact .inr (.inr ⟨k, s, rx, ry, PostG.val (d := .bl (strIn k s != no)) p sg rfl⟩)
    | _ => exact (show False from p).elim
  | _ => exact (show False from p).elim
theorem od_notInS (hu : X.A.units + 65 < cLine) : OpD X W (compareOp .NotIn) (dInS true) :=
  od_inS_gen true (by
    have h := op_notInD (X := X) hu
    unfold rNotInD at h
    simpa only [Bool.bne_true] using h) (op_notInT hu) (by
    have h := op_notin_str (X := X)
    unfold strIn
    simpa only [Bool.bne_true] using h)
noncomputable def dInA (no : Bool) (k c : D) : Res D := match c with
  | .dct t kvs => dIn no k (.dct t kvs)
  | c => dInS no k c
theorem inA_pick (no : Bool) (x y : D) : dInA no x y = dIn no x y ∨ dInA no x y = dInS no x y ∨ dInA no x y = .bad := by
  cases y <;> first | exact .inl rfl | exact .inr (.inl rfl)
theorem dt_notInA {fa fb : DL.Env → Res D} (hu : X.A.units + 65 < cLine) (ha : DE X W A a fa) (hb : DR X W A b fb) (hm : behindInMarks .NotIn b = false := by rfl) : DT X W A (.Compare a [.NotIn] [b] pos) (bTest (dInA true) fa fb) :=
  dt_pick (dt_dnotin (by omega) ha hb hm) (dt_cmp (od_notInS hu) (dr ha) hb hm) (bTest_pick (inA_pick true))
theorem _root_.L2.Room.hu65 {k : Nat} {A : Around} (h : Room k A) : A.units + 65 < cLine := by have := h.un; omega
end
end DL

/-! methods, lists made, slices with a step -/
namespace DL
open PySem PySem.Spec PyProof.Rows L2
open PySem.Builtin.Int (intBits)
section
variable {X : Cx} {W : WX} {A : Nat → Prop} {a b c ex o e : Expr} {es : List Expr} {pos p p1 p2 p3 apos cpos : Pos} {T id : String} {name : Str}
/-! ### methods of a value that is read -/
/-! ### l.remove(k), l.insert(i, k) -/
mutual
theorem py_plain : ∀ (d : D) (n : Nat), d.pl n = true → d.py.plain = true
  | .non, n, _ => by simp [D.py, PyData.plain]
  | .bl _, n, _ => by simp [D.py, PyData.plain]
  | .int _, n, _ => by simp [D.py, PyData.plain]
  | .str _, n, _ => by simp [D.py, PyData.plain]
  | .obj _, n, h => by simp [D.pl] at h
  | .err _ _, n, h => by simp [D.pl] at h
  | .exn _ _ _, n, h => by simp [D.pl] at h
  | .dct _ _, n, h => by simp [D.pl] at h
  | .con xs, 0, h => by simp [D.pl] at h
  | .con xs, n + 1, h => by
    simp only [D.py, PyData.plain]
    exact pys_plain xs n (by simpa [D.pl] using h)
  | .tup xs, 0, h => by simp [D.pl] at h
  | .lst xs, 0, h => by simp [D.pl] at h
  | .tup xs, n + 1, h => by
    simp only [D.py, PyData.plain]
    exact pys_plain xs n (by simpa [D.pl] using h)
  | .lst xs, n + 1, h => by
    simp only [D.py, PyData.plain]
    exact pys_plain xs n (by simpa [D.pl] using h)
theorem pys_plain : ∀ (ds : List D) (n : Nat), D.pls ds n = true → PyData.plainAll (D.pys ds) = true
  | [], n, _ => by simp [D.pys, PyData.plainAll]
  | d :: r, n, h => by
    have h' : d.pl n = true ∧ D.pls r n = true := by simpa [D.pls] using h
    simp only [D.pys, PyData.plainAll, py_plain d n h'.1, pys_plain r n h'.2, Bool.and_self]
end
theorem repl_erase {K : PySem.W.Frag} {G : Hp} : ∀ {ds : List D} {vs : List V}, RepL K G ds vs → ∀ j, RepL K G (ds.eraseIdx j) (vs.eraseIdx j)
  | [], _, e, j => by rw [show _ = [] from e]; exact rfl
  | d :: ds, _, ⟨v, r, e, x, y⟩, 0 => by rw [e]; exact y
  | d :: ds, _, ⟨v, r, e, x, y⟩, j + 1 => by rw [e]; exact ⟨v, _, rfl, x, repl_erase y j⟩
def gInsert : List D → List D → Option (List D) := fun xs ds => match ds with
  | [.int i, d] => if 0 ≤ i ∧ i < 1000000 ∧ xs.length < sizeLine then some (xs.take i.toNat ++ [d] ++ xs.drop i.toNat) else none
  | _ => none
theorem mut_insert : MutL X "list.insert" gInsert := by
  refine ⟨_, mt_insert, fun G H a xs vs ds ws xs' Q sg ha r1 r2 hg q => ?_⟩
  match ds, hg with
  | [.int i, d], hg =>
    dsimp only [gInsert] at hg
    by_cases hc : 0 ≤ i ∧ i < 1000000 ∧ xs.length < sizeLine
    · rw [if_pos hc] at hg
      cases hg
      obtain ⟨w, _, rfl, rw, w2, _, rfl, rw2, e⟩ := r2
      have e : _ = [] := e
      subst e
      cases (show w = .int i from rw)
      exact ⟨a, vs, i, w2, rfl, rfl, ha, by rw [r1.length]; exact hc.2.2, hc.1, by omega, q _ (((r1.take i.toNat).append (.cons rw2 .nil)).append (r1.drop i.toNat))⟩
    · rw [if_neg hc] at hg; cases hg
/-! ### list(range(..)) -/
/-! ### [x] * n -/
end
end DL

/-! zip and enumerate over lists and tuples, mixed -/
namespace DL
open PySem PySem.Spec PyProof.Rows L2
open PySem.Builtin.Int (intBits)
/-! ### a side: a list (false) or a tuple (true) -/
def SqB (K : PySem.W.Frag) (t : Bool) (H : Hp) (a : Addr) (vs : List V) : Prop := match t with
  | true => SqT K H a vs
  | false => SqL K H a vs
def IsB (t : Bool) (h : Heap) (a : Addr) (its : Array Value) : Prop := match t with
  | true => h.IsTuple a its
  | false => h.IsList a its
def IterB (t : Bool) (h : Heap) (it a : Addr) (i : Nat) : Prop := match t with
  | true => h.IsTupleIter it a i
  | false => h.IsListIter it a i
def iterO (t : Bool) (a : Addr) : Obj := match t with
  | true => { cls := .type "tuple_iterator", data := .fields #[.ref a, .int 0 0] }
  | false => { cls := .type "list_iterator", data := .fields #[.ref a, .int 0 0] }
theorem draws_b {prog : Program} {w : World} {A : Around} (hh : A.handled = none) (it a : Addr) (hne : a ≠ it) (its : Array Value) : ∀ t, Draws prog w A it [it, a] its.size (fun i v => its[i]? = some v) (fun i h => IterB t h it a i ∧ IsB t h a its)
  | true => Draws.tuple hh it a hne its
  | false => Draws.list hh it a hne its
theorem begins_b (a : Addr) (its : Array Value) : ∀ t, Begins (.ref a) (iterO t a) fun h => IsB t h a its
  | true => begins_tuple a its
  | false => begins_list a its
theorem sqb_is {X : Cx} {pins : List (Addr × Obj)} {σ : L2.St} {H : Hp} {s : Shared} {a : Addr} {vs : List V} (I : Inv X pins σ H s) : ∀ {t : Bool}, SqB X.K t H a vs → ∃ its : List Value, Vals vs its ∧ IsB t s.heap a its.toArray
  | true, h => let ⟨its, r, p, _⟩ := I.tuple h; ⟨its, r, p⟩
  | false, h => let ⟨its, r, p, _⟩ := I.list h; ⟨its, r, p.isList⟩
theorem iterb_obj {h : Heap} {it a : Addr} {i : Nat} : ∀ {t : Bool}, IterB t h it a i → ∃ o, h.get? it = some o ∧ ∀ v, o.data ≠ .cell v
  | true, ⟨o, e, _, d⟩ => ⟨o, e, fun v q => by rw [d] at q; cases q⟩
  | false, ⟨o, e, _, d⟩ => ⟨o, e, fun v q => by rw [d] at q; cases q⟩
theorem iterb_keep {h h' : Heap} {it a : Addr} {i : Nat} (k : ∀ o, h.get? it = some o → h'.get? it = some o) : ∀ {t : Bool}, IterB t h it a i → IterB t h' it a i
  | true, st => Heap.IsTupleIter.at st k
  | false, st => Heap.IsListIter.at st k
theorem iterb_new {h : Heap} {it a : Addr} : ∀ {t : Bool}, h.get? it = some (iterO t a) → IterB t h it a 0
  | true, e => ⟨_, e, rfl, rfl⟩
  | false, e => ⟨_, e, rfl, rfl⟩
theorem isb_lt {h : Heap} {a : Addr} {its : Array Value} : ∀ {t : Bool}, IsB t h a its → a < h.objs.size
  | true, ⟨o, e, _⟩ => Heap.lt_size e
  | false, ⟨o, e, _⟩ => Heap.lt_size e
/-! ### zip -/
theorem nn {m n : Nat} (h : @Ne Nat m n) : @Ne Addr m n := h
theorem ni {c m n : Nat} (h1 : @Ne Nat c m) (h2 : @Ne Nat c n) : @Not (@Membership.mem Addr (List Addr) _ [m, n] c) := fun h => by
  rcases List.mem_cons.mp h with e | h
  · exact h1 e
  · exact h2 (List.mem_singleton.mp h)
def seqOf : D → Option (List D)
  | .lst xs => some xs
  | .tup xs => some xs
  | .con xs => some xs
  | _ => none
theorem seqOf_rep {K : PySem.W.Frag} {H G : Hp} {d : D} {v : V} {xs : List D} (sg : Sub G H) (h : seqOf d = some xs) (r : Rep K G d v) : ∃ a t vs, v = .ref a ∧ SqB K t H a vs ∧ RepL K G xs vs := by
  cases d with
  | lst ys => cases h; obtain ⟨a, vs, rfl, s, q⟩ := r; exact ⟨a, false, vs, rfl, sg.sql s, q⟩
  | tup ys => cases h; obtain ⟨a, vs, rfl, s, q⟩ := r; exact ⟨a, true, vs, rfl, sg.pt s, q⟩
  | con ys => cases h; obtain ⟨a, vs, rfl, s, q⟩ := r; exact ⟨a, true, vs, rfl, sg.sqt s.sqt, q⟩
  | _ => cases h
section
variable {X : Cx} {W : WX} {A : Nat → Prop} {a b : Expr} {p pos tpos : Pos} {elts : List Expr} {kk : Nat}
end
end DL

/-! enumerate over a list or a tuple; slices with a step -/
namespace DL
open PySem PySem.Spec PyProof.Rows L2
open PySem.Builtin.Int (intBits)
def ItE2 (K : PySem.W.Frag) (t : Bool) (a : Addr) (xs : List V) : It :=
  ⟨fun i H => SqB K t H a xs ∧ i < xs.length,
    fun i H v H' => ∃ T x, v = .ref T ∧ H T = none ∧ H' = upd H T (.tup [.int (i : Nat), x]) ∧ xs[i]? = some x,
    fun i H => SqB K t H a xs ∧ i = xs.length⟩
def ESt (t : Bool) (N a : Nat) (i : Nat) (h : Heap) : Prop := (∃ old, IsEnum h (N + 1) N ((i : Nat) : Int) old) ∧ IterB t h N a i
theorem est_mem {N c : Nat} (h : c ∈ [N + 1, N]) : c = N + 1 ∨ c = N := by simpa using h
theorem turn_e2 {P : Program} {w : World} {K : PySem.W.Frag} {elts : List Expr} {kk : Nat} {tpos : Pos} {N a : Nat} {t : Bool} {xs : List V} (ha : a < N) :
    Turn P w K (.Tuple elts kk tpos) (ItE2 K t a xs) [N + 1, N] (N + 1) (ESt t N a) where
  mem := by simp
  obj := fun i h st c hc => by
    obtain ⟨⟨old, he⟩, e1⟩ := st
    rcases est_mem hc with q | q <;> subst q
    · exact ⟨_, he, fun v q => nomatch q⟩
    · exact iterb_obj e1
  keep := fun i h h' ⟨⟨old, he⟩, e1⟩ k => ⟨⟨old, k _ (by simp) _ he⟩, iterb_keep (fun o => k N (by simp) o) e1⟩
  item := by
    intro X hP hw hK hc i pins s σ H E I hf st hg
    subst hP hw hK
    obtain ⟨⟨old, he⟩, e1⟩ := st
    obtain ⟨hx, l1⟩ := hg
    obtain ⟨its, r1, p1⟩ := sqb_is I hx
    have s1 : its.toArray.size = xs.length := by rw [List.size_toArray, r1.length]
    have hel := Heap.lt_size he
    refine wpAny_pyNext_enum_itemC (draws_b (prog := X.prog) (w := X.w) (A := X.A.in1) (I.ok.hd hc) N a (nn (by omega)) its.toArray t) he ⟨e1, p1⟩ (by omega) (nn (by omega)) (ni (by omega) (by omega)) fun u1 h' tk q1 ho d1 hT hsz hk => ?_
    refine ⟨_, rfl, wpAny_letOwnedTupleGo_enum (s := { s with heap := h', toks := tk + 1 }) ho fun h'' he' sb => ?_⟩
    obtain ⟨w1, g1, rv1⟩ := r1.get (List.getElem?_eq_getElem l1)
    have ew1 : w1 = u1 := by
      rw [List.getElem?_toArray, g1] at q1
      exact Option.some.inj q1
    subst ew1
    have hT2 : h''.get? s.heap.objs.size = some { cls := .type "tuple", data := .seq #[.int i tk, w1] } := (sb.2 _ (Nat.ne_of_gt hel)).trans hT
    have new : ObjOk X.prog X.w (upd H s.heap.objs.size (.tup [.int (i : Nat), xs[i]])) h'' s.heap.objs.size (.tup [.int (i : Nat), xs[i]]) :=
      ⟨by show 2 ≤ sizeLine; decide, [.int i tk, w1], .cons ⟨_, rfl⟩ (.cons rv1 .nil), ⟨_, hT2, rfl, _, rfl⟩⟩
    have I1 : Inv X pins σ (upd H s.heap.objs.size (.tup [.int (i : Nat), xs[i]])) { s with heap := h'', toks := tk + 1 } :=
      I.turnedNew (t' := tk + 1) (ch := [N + 1, N]) (fun c o hn q => (sb.2 c (fun q' => hn (by simp [q']))).trans (hk c o (fun q' => hn (by simp [q'])) (fun q' => hn (by simp [q'])) q)) hf (Nat.le_refl _) new
    refine ⟨.ref s.heap.objs.size, _, I1, rfl, ⟨_, xs[i], rfl, I.hok.fresh (Nat.le_refl _), rfl, List.getElem?_eq_getElem l1⟩, ⟨⟨w1, ?_⟩, ?_⟩, fun c hcm => ?_⟩
    · have e2 : ((i + 1 : Nat) : Int) = (i : Int) + 1 := by omega
      rw [e2]
      exact he'
    · exact iterb_keep (fun o q => (sb.2 _ (nn (by omega))).trans q) d1.1
    · have hlt : c < s.heap.objs.size := by
        rcases est_mem hcm with q | q <;> (rw [q]; first | exact hel | (refine Nat.lt_trans ?_ hel; show (_ : Nat) < _; omega))
      rw [upd_ne (Nat.ne_of_lt hlt)]
      exact (hf c hcm).1
  done := by
    intro X hP hw hK hc i pins s σ H E I hf st hg
    subst hP hw hK
    obtain ⟨⟨old, he⟩, e1⟩ := st
    obtain ⟨hx, l1⟩ := hg
    obtain ⟨its, r1, p1⟩ := sqb_is I hx
    have s1 : its.toArray.size = i := by
      rw [List.size_toArray, ← r1.length]; exact l1.symm
    have D := draws_b (prog := X.prog) (w := X.w) (A := X.A.in1) (I.ok.hd hc) N a (nn (by omega)) its.toArray t
    rw [s1] at D
    exact wpAny_pyNext_enum_endD D he ⟨e1, p1⟩ fun h' hk => ⟨rfl, I.turnedL (t' := s.toks) (ch := [N + 1, N]) (fun c o hn q => hk c o (fun q' => hn (by simp [q'])) q) hf⟩
  self := fun A i s Q E st h => by
    obtain ⟨⟨old, he⟩, _⟩ := st
    exact wpAny_pyIter_enum he h
theorem meets_enum1 {v : Value} {o : Obj} {H : Heap → Prop} (B : Begins v o H) :
    Meets (Builtin.«enumerate.__new__» ⟨[.type "enumerate", v], []⟩) (fun _ R s => H s.heap ∧
      R (.ok (.ret (.ref (s.heap.push o).objs.size))) { s with heap := (s.heap.push o).push { cls := .type "enumerate", data := .fields #[.none, .bool false, .ref s.heap.objs.size, rawInt 0, .none, .none] } }) :=
  .of_wp fun prog w A R s h => by
    obtain ⟨hp, g, d, tk, os⟩ := s
    obtain ⟨h1, h⟩ := h
    have sb := sub_enumerate
    have it : ∀ {A' : Around} {E : Value → Shared → Prop} {Q : Value → Shared → Prop}, Q (.ref hp.objs.size) ⟨hp.push o, g, d, tk, os⟩ → wpAny (model prog w) A' (pyIter v) Q E ⟨hp, g, d, tk, os⟩ := fun q => B.iter prog w _ _ ⟨hp, g, d, tk, os⟩ _ h1 q
    wp_walk using it
    refine wpAny_stack_any fun st => wpAny_pure ?_
    split
    · rename_i c _ _ _ _ _
      cases (c == Value.type "enumerate") <;> (wp_walk using it; exact ⟨_, rfl, h⟩)
    · wp_walk using it
      exact ⟨_, rfl, h⟩
theorem enum_begin1 {prog : Program} {w : World} {A : Around} {E : Value → Shared → Prop} {s : Shared} {v : Value} {o : Obj} {H : Heap → Prop} {Q : Value → Shared → Prop} (B : Begins v o H) (h1 : H s.heap)
    (h : ∀ h', IsEnum h' (s.heap.objs.size + 1) s.heap.objs.size 0 .none → h'.get? s.heap.objs.size = some o → (∀ b o, s.heap.get? b = some o → h'.get? b = some o) → Q (.ref (s.heap.objs.size + 1)) { s with heap := h' }) :
    wpAny (model prog w) A (call (.type "enumerate") [v]) Q E s := by
  refine callType_new F.called_enumerate (by decide) (F.typeCall_enumerate_1 _) (F.newCall_enumerate_1 _) (fun obj => F.args_object_init_2 obj _) F.entry_enumerate_new (meets_enum1 B) ⟨h1, ?_⟩
  have hz : (s.heap.push o).objs.size = s.heap.objs.size + 1 := Heap.size_push ..
  show _ ∧ _
  rw [hz]
  have he := Heap.get?_push_size (s.heap.push o) (o := { cls := .type "enumerate", data := .fields #[.none, .bool false, .ref s.heap.objs.size, rawInt 0, .none, .none] }) rfl
  rw [hz] at he
  exact ⟨⟨_, he, rfl⟩, h _ he (Heap.get?_push_of_some _ (Heap.get?_push_size _ B.free)) fun b o' x => Heap.get?_push_of_some _ (Heap.get?_push_of_some _ x)⟩
def iE2 (K : PySem.W.Frag) (ta : TA) : TI := fun σ H R => ta σ H fun vs H1 => ∃ a xs t, vs = [.ref a] ∧ SqB K t H1 a xs ∧ R (ItE2 K t a xs) H1
theorem pi_e2 {X : Cx} {e : Expr} {ta : TA} {p pos tpos : Pos} {elts : List Expr} {kk : Nat} (hg : Gl X "enumerate") (hm : X.mg "enumerate" = none) (ha : PA X [e] ta) (hs : starEach [e] X.env = [(false, eval e X.env)] := by rfl) :
    PI X (.Tuple elts kk tpos) (.Call (.Name "enumerate" p) [e] [] pos) (iE2 X.K ta) := by
  refine ⟨fun pins s σ H R I h => ?_⟩
  refine Call_ (ld_blt I hg hm boot_enumerate (PyProof.Rows.callWith_type1 (thn (ha.run pos pins s σ H _ I h) fun us s1 ⟨vs, H1, I1, r1, q1⟩ => ?_) hs rfl))
  obtain ⟨a, xs, t, rfl, hx, q⟩ := q1
  obtain ⟨u1, rfl, ru1⟩ := r1.one
  cases ru1
  obtain ⟨its, rv1, p1⟩ := sqb_is I1 hx
  refine enum_begin1 (begins_b a its.toArray t) p1 fun h' he h1 hk => wpAny_pyIter_enum he ?_
  have I2 : Inv X pins σ H1 { s1 with heap := h' } := I1.kept (t' := s1.toks) hk
  refine ⟨s1.heap.objs.size + 1, _, ESt t s1.heap.objs.size a, _, H1, rfl, I2, turn_e2 (isb_lt p1), ⟨⟨_, he⟩, iterb_new h1⟩, fun c hcm => ?_, q⟩
  have hle : s1.heap.objs.size ≤ c := by
    rcases est_mem hcm with z | z <;> (rw [z]; first | exact Nat.le_refl _ | exact Nat.le_add_right _ _)
  exact I1.fpOk hle (I1.hok.fresh hle)
/-- pairs of a place and an item -/
def enumT : Nat → List D → List D
  | _, [] => []
  | n, x :: xs => .tup [.int (n : Nat), x] :: enumT (n + 1) xs
theorem enumT_length : ∀ (n : Nat) (xs : List D), (enumT n xs).length = xs.length
  | _, [] => rfl
  | n, x :: xs => by rw [enumT, List.length_cons, List.length_cons, enumT_length (n + 1) xs]
theorem enumT_get : ∀ {xs : List D} {n i : Nat} {x : D}, xs[i]? = some x → (enumT n xs)[i]? = some (.tup [.int ((n + i : Nat) : Int), x])
  | x :: xs, n, 0, _, h => by cases h; rfl
  | x :: xs, n, i + 1, _, h => by
    have := enumT_get (xs := xs) (n := n + 1) (i := i) (by simpa using h)
    rw [enumT, List.getElem?_cons_succ, this, Nat.add_assoc, Nat.add_comm 1 i]
  | [], _, i, _, h => by simp at h
theorem walk_e2 {K : PySem.W.Frag} {B G : Hp} {a : Addr} {t : Bool} {ds : List D} {xs : List V} (h1 : SqB K t B a xs) (r1 : RepL K G ds xs) : WalkOf K (ItE2 K t a xs) (enumT 0 ds) B G := by
  have up : ∀ {t : Bool} {c : Addr} {vs : List V} {H : Hp}, Sub B H → SqB K t B c vs → SqB K t H c vs := fun {t c vs H} s h => by
    cases t with
    | true => exact s.sqt h
    | false => exact s.sql h
  have e1 := r1.length
  refine ⟨fun H i s hi => ?_, fun H s => ?_, fun H G2 i x H' s g g2 hi y => ?_⟩
  · rw [enumT_length] at hi
    exact ⟨up s h1, by omega⟩
  · rw [enumT_length]
    exact ⟨up s h1, by omega⟩
  · obtain ⟨T, v1, rfl, hT, rfl, g1⟩ := y
    obtain ⟨d1, k1, k2⟩ := r1.get' g1
    have hg := enumT_get (n := 0) k1
    rw [Nat.zero_add] at hg
    refine ⟨.tup [.int (i : Nat), d1], upd G2 T (.tup [.int (i : Nat), v1]), hg, Ext.laid g2 hT, T, [.int (i : Nat), v1], rfl, upd_same, ?_⟩
    have up2 : Sub G (upd G2 T (.tup [.int (i : Nat), v1])) := g.trans (Sub.upd (g2.free hT))
    exact .cons rfl (.cons (k2.mono up2) .nil)
def iEnum (f : DL.Env → Res D) : DL.Env → Res (List D) := fun e => (f e).bind fun x => match seqOf x with
  | some xs => .ok (enumT 0 xs)
  | none => .bad
section
variable {X : Cx} {W : WX} {A : Nat → Prop} {a b c ex : Expr} {lo hi : Option Expr} {p p2 p3 pos tpos : Pos} {elts : List Expr} {kk : Nat}
theorem di_enum {f : DL.Env → Res D} (hg : Gl X "enumerate") (hm : X.mg "enumerate" = none) (ha : DE X W A a f) (hs : starEach [a] X.env = [(false, eval a X.env)] := by rfl) (he : starEach (a :: []) X.env = (false, eval a X.env) :: starEach [] X.env := by rfl) :
    DI X W A (.Tuple elts kk tpos) (.Call (.Name "enumerate" p) [a] [] pos) (iEnum f) :=
  (pi_e2 hg hm (pa_cons ha pa_nil he) hs).imp fun σ H Q ⟨e, G, E, q⟩ => ⟨e, G, E, q.split.imp fun d H1 G1 x1 q1 v rv => by
    cases hx : seqOf d with
    | none => rw [hx] at q1; exact q1.elim
    | some xs =>
      rw [hx] at q1
      obtain ⟨c1, t1, us1, rfl, s1, k1⟩ := seqOf_rep (Sub.refl G1) hx rv
      have up : ∀ {t : Bool} {c : Addr} {vs : List V}, SqB X.K t G1 c vs → SqB X.K t H1 c vs := fun {t c vs} h => by
        cases t with
        | true => exact x1.gh.sqt h
        | false => exact x1.gh.sql h
      exact ⟨c1, us1, t1, rfl, up s1, q1.here x1.gh _ (walk_e2 s1 k1)⟩⟩
/-! ### xs[lo:hi:step] -/
end
end DL

/-! list(reversed(l)) -/
namespace DL
open PySem PySem.Spec PyProof.Rows L2 RT
open PySem.Builtin.Int (intBits)
section
variable {prog : Program} {w : World} {A : Around} {E : Value → Shared → Prop} {s : Shared}
end
section
variable {X : Cx}
end
end DL

/-! {k: v, ..} with keys that are written out -/
namespace DL
open PySem PySem.Spec PyProof.Rows L2
open PySem.Builtin.Int (intBits)
section
variable {K : PySem.W.Frag} {mg : Str → Option Value} {W : WX} {A : Nat → Prop}
end
section
variable {X : Cx} {W : WX} {A : Nat → Prop} {pos : Pos}
end
end DL

/-! dict(d); dicts with number and text keys compared -/
namespace DL
open PySem PySem.Spec PyProof.Rows L2
open PySem.Builtin.Int (intBits)
section
variable {X : Cx} {W : WX}
/-! ### == -/
end
end DL

/-! max, min of a list of numbers -/
namespace DL
open PySem PySem.Spec PyProof.Rows L2
open PySem.Builtin.Int (intBits)
section
variable {X : Cx} {W : WX}
end
end DL

/-! slices and sums of lists are new lists -/
namespace DL
open PySem PySem.Spec PyProof.Rows L2
open PySem.Builtin.Int (intBits)
section
variable {X : Cx} {W : WX} {A : Nat → Prop} {a b : Expr} {lo hi : Option Expr} {pos p2 : Pos}
/-- a + b of lists -/
def dCat : D → D → Res D
  | .lst a, .lst b => if a.length + b.length ≤ sizeLine then .ok (.lst (a ++ b)) else .bad
  | _, _ => .bad
theorem df_cat {fa fb : DL.Env → Res D} (ha : DR X W A a fa) (hb : DR X W A b fb) : DF X W A (.BinOp a .Add b pos) (eOp dCat fa fb) :=
  (pe_op op_catR ha hb).imp fun σ H Q ⟨en, G, E, q⟩ => ⟨en, G, E, q.split.imp fun d H1 G1 x1 q1 v rv => ⟨en, G1, E.ext x1, q1.split.imp fun d2 H2 G2 x2 q2 u ru => by
    have rv := rv.mono x2.hh x2.gg
    have sg := x2.gh
    cases d with
    | lst xs =>
      cases d2 with
      | lst ys =>
        obtain ⟨l, vs, rfl, s1, r1⟩ := rv
        obtain ⟨m, ws, rfl, s2, r2⟩ := ru
        by_cases hc : xs.length + ys.length ≤ sizeLine
        · have q2' : PostG X.K X.mg _ H2 G2 (if xs.length + ys.length ≤ sizeLine then Res.ok (D.lst (xs ++ ys)) else .bad) _ := q2
          rw [if_pos hc] at q2'
          refine ⟨l, m, vs, ws, rfl, rfl, s1, s2, by rw [r1.length, r2.length]; exact hc, fun p hp => ?_⟩
          exact q2' (upd H2 p (.lst (vs ++ ws))) G2 ⟨Sub.upd hp, Sub.refl _, sg.trans (Sub.upd hp), fun b z => .inl z⟩ p (x1.hh.free (x2.hh.free hp)) (sg.free hp) ⟨_, upd_same, r1.append r2⟩
        · have q2' : PostG X.K X.mg _ H2 G2 (if xs.length + ys.length ≤ sizeLine then Res.ok (D.lst (xs ++ ys)) else .bad) _ := q2
          rw [if_neg hc] at q2'
          exact q2'.elim
      | _ => exact (show False from q2).elim
    | _ => cases d2 <;> exact (show False from q2).elim⟩⟩
end
end DL

/-! sets of numbers and texts made of a list: how many, and sorted -/
namespace DL
open PySem PySem.Spec PyProof.Rows L2
open PySem.Builtin.Int (intBits)
section
variable {α β : Type} {F : α → β → Prop}
end
def GoodK (P : Program) (w : World) (k : Key) (e : Int × Value) : Prop := (mixKind P w).is k e.2 = true ∧ e.1 = (mixKind P w).hash k ∧ e.2.scannable = true
/-- a set of numbers and texts, that can be walked -/
def SetG (P : Program) (w : World) (h : Heap) (a : Addr) (ks : List Key) : Prop :=
  ∃ o es ep t ls, h.get? a = some o ∧ o.ExactSet ∧ o.data = .set es ep t ∧ Paired (GoodK P w) ls es.toList ∧ ls.Perm ks ∧ ks.Nodup ∧ es.size < scanBound ∧ t.fits es.size = true ∧ L2.Ris t.place.toList ∧ (w.params.followText "set-order" = true ∨ t.led = true)
section
variable {P : Program} {w : World} {A : Around} {E : Value → Shared → Prop} {s : Shared} {a : Addr} {ks : List Key}
theorem SetG.at {h h' : Heap} (R : SetG P w h a ks) (k : ∀ o, h.get? a = some o → h'.get? a = some o) : SetG P w h' a ks := by
  obtain ⟨o, es, ep, t, ls, ho, r⟩ := R
  exact ⟨o, es, ep, t, ls, k o ho, r⟩
set_option maxRecDepth 100000 in
set_option maxHeartbeats 3200000 in
end
end DL

/-! len(set(l)), sorted(set(l)) of numbers and texts -/
namespace DL
open PySem PySem.Spec PyProof.Rows L2
section
open PySem.W PySem.Calls PySem.SeqAt
variable {prog : Program} {w : World} {A : Around} {s : Shared}
end
/-! ### keys in order -/
/-! ### the rules -/
def D.key : D → Option Key
  | .int i => some (.inl i)
  | .str x => some (.inr x)
  | _ => none
def D.keys : List D → Option (List Key)
  | [] => some []
  | d :: r => match d.key, D.keys r with
    | some k, some ks => some (k :: ks)
    | _, _ => none
section
variable {X : Cx} {W : WX} {A : Nat → Prop} {a : Expr} {p p2 q pos : Pos}
end
end DL

/-! len(set(l)), sorted(set(l)), max(l, default=c) over data -/
namespace DL
open PySem PySem.Spec PyProof.Rows L2
section
variable {X : Cx} {W : WX} {A : Nat → Prop} {a : Expr} {p p2 q pos : Pos}
/-! max(l, default=c) -/
end
end DL

/-! a <= b <= c <= d; l.count(n) -/
namespace DL
open PySem PySem.Spec PyProof.Rows L2
section
variable {X : Cx} {W : WX} {A : Nat → Prop} {a b c d : Expr} {pos : Pos}
/-! l.count(n) of whole numbers -/
end
end DL

/-! a tuple times a number, the factor one, too -/
namespace L2
open PySem PySem.Spec PyProof.Rows
variable {X : Cx}
end L2
namespace DL
open PySem PySem.Spec PyProof.Rows L2
section
variable {X : Cx} {W : WX}
end
end DL

/-! a def that is handed a list of the caller's own as its first value and gives back one of its own -/
namespace DL
open PySem PySem.Spec PyProof.Rows L2
/-- such a def's promise -/
def spO (K : PySem.W.Frag) (mg : Str → Option Value) (n : Nat) (F : List D → Res D) : Sp := fun vs H Q E => vs.length = n ∧ ∃ a vr d dr G Hm, vs = .ref a :: vr ∧ Sub G Hm ∧ Sub Hm H ∧ Hm a = none ∧ OwnC K H G d a ∧ RepL K G dr vr ∧
  PostG K mg E Hm G (F (d :: dr)) fun r H' G' => ∀ b, Hm b = none → G' b = none → OwnC K H' G' r b → Q (.ref b) H'
structure CallOkO (P : Program) (w : World) (K : PySem.W.Frag) (mg : Str → Option Value) (base : Heap) (k : Nat) (x : Str) (ps : List Str) (F : List D → Res D) : Prop where
  ok : ∃ f fd, mg x = some (.ref f) ∧ PySem.W.keepIn K (.ref f) = true ∧ Binds K fd ps [] ∧ FnOk P w K mg base (L2.CX P w) k f fd ps (spO K mg ps.length F)
theorem CallOkO.up {P : Program} {w : World} {K : PySem.W.Frag} {mg : Str → Option Value} {base : Heap} {j k : Nat} {x : Str} {ps : List Str} {F : List D → Res D} (h : CallOkO P w K mg base j x ps F) (hjk : j ≤ k) : CallOkO P w K mg base k x ps F :=
  let ⟨f, fd, h1, h2, h3, h4⟩ := h.ok
  ⟨f, fd, h1, h2, h3, h4.mono hjk⟩
section
variable {X : Cx} {W : WX} {H0 : Bas} {G0 : Hp} {al : List Nat} {pos p : Pos}
end
end DL

/-! d.values() as a value; max(d.values(), default=c) -/
namespace L2
open PySem PySem.Spec PyProof.Rows
section
variable {X : Cx} {o : Expr} {apos mpos : Pos} {td : TE}
end
end L2
namespace DL
open PySem PySem.Spec PyProof.Rows L2
section
variable {X : Cx} {W : WX} {A : Nat → Prop} {o : Expr} {apos mpos p pos : Pos}
theorem Rd.mono' {H H' : Hp} (h : Sub H H') {a : Addr} {u : HO} (r : Rd H a u) : Rd H' a u := h.rd r
end
end DL

/-! comprehensions within one another -/
namespace DL
open PySem PySem.Spec PyProof.Rows L2
end DL

/-! dicts that are walked: keys, values, items -/
namespace DL
open PySem PySem.Spec PyProof.Rows L2
section
variable {X : Cx} {pins : List (Addr × Obj)} {σ : L2.St} {H : Hp} {s : Shared} {d : Addr} {o : Obj}
end
section
variable {P : Program} {w : World} {K : PySem.W.Frag} {tg : Expr} {d : Addr} {o : Obj} {es : Array DictEntry} {ep : Nat}
end
section
variable {X : Cx} {tg e : Expr} {td : TE} {apos cpos : Pos}
end
/-! what they walk, as data -/
section
variable {K : PySem.W.Frag} {B G : Hp} {d : Addr} {o : Obj}
end
section
variable {X : Cx} {W : WX} {A : Nat → Prop} {tg ex : Expr} {f : DL.Env → Res D} {apos cpos : Pos}
end
end DL

/-! dicts with tuple keys compared (values whole numbers) -/
namespace DL.EqH
open Lean PySem PySem.Calls PyProof.Rows PyProof.V PySem.Spec PySem.W
section
variable {prog : Program} {w : World} {K : Type} [DecidableEq K] {knd : HeapKind prog w K} {A : Around} {E : Value → Shared → Prop} {s : Shared}
inductive HitsH {K : Type} [DecidableEq K] (A : Around) (s : Shared) (kb : List (K × Addr × Value)) : List (K × Addr × Value) → Bool → Prop
  | nil : HitsH A s kb [] true
  | miss {k : K} {v : Addr × Value} {r : List (K × Addr × Value)} : (∀ (j : Nat) (p : Addr × Value), kb[j]? ≠ some (k, p)) → HitsH A s kb ((k, v) :: r) false
  | hit {k : K} {v y : Addr × Value} {r : List (K × Addr × Value)} {e b : Bool} {j : Nat} : kb[j]? = some (k, y) → SeqAt.EqAt A s v.2 y.2 e → HitsH A s kb r b → HitsH A s kb ((k, v) :: r) (e && b)
theorem HitsH.inv {kb : List (K × Addr × Value)} {k : K} {v : Addr × Value} {r : List (K × Addr × Value)} {b : Bool} (h : HitsH A s kb ((k, v) :: r) b) :
    ((∀ (j : Nat) (p : Addr × Value), kb[j]? ≠ some (k, p)) ∧ b = false) ∨ ∃ (j : Nat) (y : Addr × Value) (e b' : Bool), kb[j]? = some (k, y) ∧ SeqAt.EqAt A s v.2 y.2 e ∧ HitsH A s kb r b' ∧ b = (e && b') := by
  cases h with
  | miss hn => exact .inl ⟨hn, rfl⟩
  | hit hy he hr => exact .inr ⟨_, _, _, _, hy, he, hr, rfl⟩
end
end DL.EqH
namespace DL
open PySem PySem.Spec PyProof.Rows L2
section
variable {X : Cx} {W : WX}
end
end DL

/-! isinstance(e, (A, B, ..)), e the error that a handler names -/
namespace DL
open PySem PySem.Spec PyProof.Rows L2
def anyO : List (Option Bool) → Option Bool
  | [] => some false
  | some true :: _ => some true
  | some false :: r => anyO r
  | none :: _ => none
/-- the tables of several classes, at the class k -/
inductive Tabs (K : PySem.W.Frag) (mg : Str → Option Value) (k : String) : List V → List Value → List (Option Bool) → Prop where
  | nil : Tabs K mg k [] [] []
  | cons {c : Addr} {t : String → Option Bool} {vs : List V} {us : List Value} {os : List (Option Bool)} (h : IsTab K mg (.ref c) t) (r : Tabs K mg k vs us os) : Tabs K mg k (.ref c :: vs) (.ref c :: us) (t k :: os)
theorem Tabs.cls {K : PySem.W.Frag} {mg : Str → Option Value} {k : String} {vs : List V} {us : List Value} {os : List (Option Bool)} (h : Tabs K mg k vs us os) : Paired ClsV vs us := by
  induction h with
  | nil => exact .nil
  | cons _ _ ih => exact .cons (.own _) ih
theorem Tabs.any {K : PySem.W.Frag} {mg : Str → Option Value} {k : String} {C : Addr} (hm : mg (Str.ofString k) = some (.ref C)) {vs : List V} {us : List Value} {os : List (Option Bool)} (h : Tabs K mg k vs us os) : ∀ {b : Bool}, anyO os = some b → PySem.W.kitAny K (.ref C) us = some b := by
  induction h with
  | nil => intro b h; cases h; exact kitAny_nil
  | @cons c t vs us os h r ih =>
    intro b hb
    cases ht : t k with
    | none => rw [ht] at hb; cases hb
    | some z =>
      obtain ⟨C', e, _, h3⟩ := h k z _ ht hm
      cases e
      rw [ht] at hb
      cases z with
      | true => cases hb; exact kitAny_cons h3 (fun z => by cases z) fun _ => rfl
      | false => exact kitAny_cons h3 (fun _ => ih hb) fun z => by cases z
section
variable {X : Cx} {W : WX} {A : Nat → Prop} {pos p p1 p2 : Pos}
end
end DL

/-! a def that is lent lists and dicts of the caller's own: it may change them; the caller has them back -/
namespace DL
open PySem PySem.Spec PyProof.Rows L2
/-- the promise of a def that is lent its parameters at bs -/
def spM (K : PySem.W.Frag) (mg : Str → Option Value) (n : Nat) (bs : List Nat) (F : List D → Res (D × List D)) : Sp := fun vs H Q E => vs.length = n ∧ ∃ (ds : List D) (G : Hp) (B : Bas), Sub G B.hp ∧ Sub B.hp H ∧ ds.length = n ∧
  (∀ i d, ds[i]? = some d → i ∉ bs → ∃ v, vs[i]? = some v ∧ Rep K G d v) ∧
  (∀ i d, ds[i]? = some d → i ∈ bs → ∃ a, B.pin i = some a ∧ vs[i]? = some (.ref a) ∧ B.hp a = none ∧ OwnC K H G d a) ∧
  (∀ i, i ∉ bs → B.pin i = none) ∧ (∀ i j a, B.pin i = some a → B.pin j = some a → i = j) ∧
  match F ds with
  | .ok (r, cs) => ∀ H' G', Ext B.hp G H' G' → (∀ (k i : Nat) c, bs[k]? = some i → cs[k]? = some c → ∃ a, B.pin i = some a ∧ B.hp a = none ∧ G' a = none ∧ OwnC K H' G' c a) → ∀ v, Rep K G' r v → Q v H'
  | .exc c fs => ∀ cls o H', Sub B.hp H' → IsExc K mg c fs cls o B.hp H' → E cls o H'
  | .bad => False
structure CallOkM (P : Program) (w : World) (K : PySem.W.Frag) (mg : Str → Option Value) (base : Heap) (k : Nat) (x : Str) (ps : List Str) (bs : List Nat) (F : List D → Res (D × List D)) : Prop where
  ok : ∃ f fd, mg x = some (.ref f) ∧ PySem.W.keepIn K (.ref f) = true ∧ Binds K fd ps [] ∧ FnOk P w K mg base (L2.CX P w) k f fd ps (spM K mg ps.length bs F)
theorem CallOkM.up {P : Program} {w : World} {K : PySem.W.Frag} {mg : Str → Option Value} {base : Heap} {j k : Nat} {x : Str} {ps : List Str} {bs : List Nat} {F : List D → Res (D × List D)} (h : CallOkM P w K mg base j x ps bs F) (hjk : j ≤ k) : CallOkM P w K mg base k x ps bs F :=
  let ⟨f, fd, h1, h2, h3, h4⟩ := h.ok
  ⟨f, fd, h1, h2, h3, h4.mono hjk⟩
/-- the names at the start, those at bs lent -/
def envMa (bs : List Nat) : Nat → List D → Env
  | _, [] => []
  | k, d :: r => some (d, bs.elem k) :: envMa bs (k + 1) r
end DL

/-! calls of such defs: what is written, some of it lent -/
namespace DL
open PySem PySem.Spec PyProof.Rows L2
/-- what is handed over: a value, the list or dict of a name of one's own, a new list or dict -/
inductive MA where
  | val (d : D)
  | own (i : Nat)
  | new (d : D)
def RelM (K : PySem.W.Frag) (H G : Hp) (σ : L2.St) : List MA → List V → Prop
  | [], vs => vs = []
  | .val d :: r, vs => ∃ v l, vs = v :: l ∧ Rep K G d v ∧ RelM K H G σ r l
  | .own i :: r, vs => ∃ v l, vs = v :: l ∧ σ[i]? = some (some v) ∧ RelM K H G σ r l
  | .new d :: r, vs => ∃ a l, vs = .ref a :: l ∧ G a = none ∧ OwnC K H G d a ∧ RelM K H G σ r l
section
variable (K : PySem.W.Frag) (mg : Str → Option Value) (W : WX) (A : Nat → Prop)
end
section
variable {X : Cx} {W : WX} {A : Nat → Prop} {a : Expr} {es : List Expr} {H0 : Bas} {G0 : Hp} {al : List Nat} {pos p : Pos}
end
end DL

/-! the call itself -/
namespace DL
open PySem PySem.Spec PyProof.Rows L2
theorem RelM.length {K : PySem.W.Frag} {H G : Hp} {σ : L2.St} : ∀ {l : List MA} {vs : List V}, RelM K H G σ l vs → vs.length = l.length
  | [], _, h => by rw [show _ = [] from h]; rfl
  | .val _ :: _, _, ⟨v, r, e, _, h⟩ => by rw [e, List.length_cons, List.length_cons, RelM.length h]
  | .own _ :: _, _, ⟨v, r, e, _, h⟩ => by rw [e, List.length_cons, List.length_cons, RelM.length h]
  | .new _ :: _, _, ⟨v, r, e, _, _, h⟩ => by rw [e, List.length_cons, List.length_cons, RelM.length h]
/-- what is so of a thing handed over -/
def AtM (K : PySem.W.Frag) (H G : Hp) (σ : L2.St) : MA → V → Prop
  | .val d, v => Rep K G d v
  | .own i, v => σ[i]? = some (some v)
  | .new d, v => ∃ a, v = .ref a ∧ G a = none ∧ OwnC K H G d a
theorem RelM.at {K : PySem.W.Frag} {H G : Hp} {σ : L2.St} : ∀ {l : List MA} {vs : List V} {k : Nat} {z : MA}, RelM K H G σ l vs → l[k]? = some z → ∃ v, vs[k]? = some v ∧ AtM K H G σ z v
  | .val d :: _, _, 0, _, ⟨v, r, e, h1, _⟩, h => by cases h; exact ⟨v, by rw [e]; rfl, h1⟩
  | .own i :: _, _, 0, _, ⟨v, r, e, h1, _⟩, h => by cases h; exact ⟨v, by rw [e]; rfl, h1⟩
  | .new i :: _, _, 0, _, ⟨v, r, e, h1, h2, _⟩, h => by cases h; exact ⟨.ref v, by rw [e]; rfl, v, rfl, h1, h2⟩
  | .val _ :: l, _, k + 1, z, ⟨v, r, e, _, h2⟩, h => by
    obtain ⟨w, h3, h4⟩ := RelM.at (k := k) (z := z) h2 (by simpa using h)
    exact ⟨w, by rw [e]; simpa using h3, h4⟩
  | .own _ :: l, _, k + 1, z, ⟨v, r, e, _, h2⟩, h => by
    obtain ⟨w, h3, h4⟩ := RelM.at (k := k) (z := z) h2 (by simpa using h)
    exact ⟨w, by rw [e]; simpa using h3, h4⟩
  | .new _ :: l, _, k + 1, z, ⟨v, r, e, _, _, h2⟩, h => by
    obtain ⟨w, h3, h4⟩ := RelM.at (k := k) (z := z) h2 (by simpa using h)
    exact ⟨w, by rw [e]; simpa using h3, h4⟩
section
variable {K : PySem.W.Frag} {H0 : Bas} {G0 H G : Hp} {σ : L2.St}
end
end DL

/-! statements that call a def that is lent lists and dicts -/
namespace DL
open PySem PySem.Spec PyProof.Rows L2
section
variable {X : Cx} {W : WX} {H0 : Bas} {G0 : Hp} {al : List Nat} {pos : Pos}
end
end DL

/-! defs that are lent things and call themselves; a, b = f(..) of such a def -/
namespace DL
open PySem PySem.Spec PyProof.Rows L2
section
variable {X : Cx} {W : WX} {H0 : Bas} {G0 : Hp} {al : List Nat} {pos : Pos}
end
end DL

/-! d.update(e) of dicts with number or text keys; statements that are never reached -/
namespace DL
open PySem PySem.Spec PyProof.Rows L2
section
variable {X : Cx}
end
section
variable {X : Cx} {W : WX} {H0 : Bas} {G0 : Hp} {al : List Nat} {ex : Expr} {es : List Expr} {pos apos cpos p1 p2 : Pos}
end
end DL

/-! a text walked, sign by sign -/
namespace DL
open PySem PySem.Spec PyProof.Rows L2
def signs (x : Str) : List D := x.cps.toList.map fun c => D.str ⟨#[c]⟩
noncomputable def iStrD (f : DL.Env → Res D) : DL.Env → Res (List D) := fun e => (f e).bind fun d => match d with
  | .str x => .ok (signs x)
  | _ => .bad
section
variable {X : Cx} {W : WX} {A : Nat → Prop} {ex : Expr}
theorem walk_str {K : PySem.W.Frag} {B G : Hp} {x : Str} : WalkOf K (Its x) (signs x) B G where
  go := fun H i h hi => by
    show i < x.cps.size
    simpa [signs] using hi
  stop := fun H h => by
    show x.cps.size ≤ (signs x).length
    simp [signs]
  yld := fun H G2 i y H' h g g2 hi z => by
    obtain ⟨e, c, h1, e2⟩ := z
    subst e
    subst e2
    exact ⟨.str ⟨#[c]⟩, G2, by simp [signs, h1], Ext.refl g2, rfl⟩
theorem di_str {tg : Expr} {f : DL.Env → Res D} (h : DE X W A ex f) : DI X W A tg ex (iStrD f) :=
  (pi_str h).imp fun σ H Q ⟨e, G, E, p⟩ => ⟨e, G, E, p.split.imp fun d H1 G1 x1 p1 v rv => by
    cases d with
    | str x => exact ⟨x, rv, PostG.here (a := signs x) p1 x1.gh _ walk_str⟩
    | _ => exact (show False from p1).elim⟩
end
/-! a list, a tuple or a text -/
section
variable {X : Cx} {W : WX} {A : Nat → Prop} {ex : Expr}
end
end DL

/-! tuples without a dict of their own: tuple(l), t + u, t[a:b], t.index(x), t.count(x), dict(t) -/
namespace DL
open PySem PySem.Spec PyProof.Rows L2
open PySem.Builtin.Int (intBits)
/-- its object -/
theorem PlT.obj {X : Cx} {pins : List (Addr × Obj)} {σ : L2.St} {H : Hp} {s : Shared} {a : Addr} {xs : List V} (I : Inv X pins σ H s) (h : PlT X.K H a xs) :
    ∃ (its : List Value) (o : Obj) (n : Nat), Vals xs its ∧ s.heap.get? a = some o ∧ o.cls = .type "tuple" ∧ o.dict = none ∧ o.data = .seq its.toArray n ∧ xs.length ≤ sizeLine := by
  rcases h with ⟨o, h, d⟩ | ⟨o, its, n, hk, hc, hd, hs, hz, r⟩
  · obtain ⟨e, z, its, r, o', e', c, n, q⟩ := I.hok a _ h
    rw [e] at e'; cases e'
    exact ⟨its, o, n, r, e, c, d, q, z⟩
  · refine ⟨its.toList, o, n, r, I.kIn a o hk, hc, hd, by simpa using hs, ?_⟩
    have e := r.length
    simp only [Array.length_toList] at e
    omega
section
variable {X : Cx} {W : WX} {A : Nat → Prop}
/-! ### tuple(l) -/
/-! ### t + u -/
/-! ### t[a:b] -/
variable {a b e o : Expr} {lo hi : Option Expr} {es : List Expr} {pos p2 apos cpos : Pos}
/-! ### methods -/
/-! ### dict(t), t a tuple of pairs of a row and a value, the rows unlike -/
/-- a pair: its address, the row's address, the row, the value -/
abbrev Pr4 := Addr × Addr × List Int × V
theorem vals_refs : ∀ {ps : List Pr4} {its : List Value}, Vals (ps.map fun p => V.ref p.1) its → its = ps.map fun p => Value.ref p.1
  | [], _, h => by cases h; rfl
  | p :: ps, _, h => by
    cases h with
    | cons r t =>
      obtain rfl := r
      rw [vals_refs t]; rfl
end
end DL

/-! a written tuple, known to have no dict of its own -/
namespace DL
open PySem PySem.Spec PyProof.Rows L2
open PySem.Builtin.Int (intBits)
section
variable {X : Cx} {W : WX} {A : Nat → Prop} {pos : Pos}
def eTupP (fs : DL.Env → Res (List D)) : DL.Env → Res D := fun e => (fs e).bind fun ds => .ok (.con ds)
@[simp] theorem eTupP_app {fs : DL.Env → Res (List D)} {e : DL.Env} : eTupP fs e = (fs e).bind fun ds => .ok (.con ds) := Eq.trans rfl rfl
end
end DL

/-! a def that gives back a new list or dict of its own -/
namespace DL
open PySem PySem.Spec PyProof.Rows L2
/-- such a def's promise -/
def spN (K : PySem.W.Frag) (mg : Str → Option Value) (n : Nat) (F : List D → Res D) : Sp := fun vs H Q E => vs.length = n ∧ ∃ ds G, Sub G H ∧ RepL K G ds vs ∧ PostG K mg E H G (F ds) fun d H' G' => ∀ a, H a = none → G' a = none → OwnC K H' G' d a → Q (.ref a) H'
structure CallOkN (P : Program) (w : World) (K : PySem.W.Frag) (mg : Str → Option Value) (base : Heap) (k : Nat) (x : Str) (ps : List Str) (F : List D → Res D) : Prop where
  ok : ∃ f fd, mg x = some (.ref f) ∧ PySem.W.keepIn K (.ref f) = true ∧ Binds K fd ps [] ∧ FnOk P w K mg base (L2.CX P w) k f fd ps (spN K mg ps.length F)
theorem CallOkN.up {P : Program} {w : World} {K : PySem.W.Frag} {mg : Str → Option Value} {base : Heap} {j k : Nat} {x : Str} {ps : List Str} {F : List D → Res D} (h : CallOkN P w K mg base j x ps F) (hjk : j ≤ k) : CallOkN P w K mg base k x ps F :=
  let ⟨f, fd, h1, h2, h3, h4⟩ := h.ok
  ⟨f, fd, h1, h2, h3, h4.mono hjk⟩
section
variable {X : Cx} {W : WX} {ex : Expr} {es : List Expr} {pos : Pos}
end
end DL

/-! texts of numbers, put together and taken apart -/
namespace DL
open PySem PySem.Spec PyProof.Rows L2
/-! ### str(number) -/
def dStrI : D → Res D
  | .int i => if i.natAbs.log2 < 1920 then .ok (.str (toString i)) else .bad
  | _ => .bad
theorem c1_strI {X : Cx} {W : WX} : Call1 X W (.type "str") dStrI := by
  refine ⟨_, call_str_int, fun σ H G x dx Q sg rx p => ?_⟩
  cases dx with
  | int i =>
    cases (show x = .int i from rx)
    dsimp only [dStrI] at p
    by_cases h : i.natAbs.log2 < 1920
    · rw [if_pos h] at p
      exact ⟨i, rfl, h, p.val sg rfl⟩
    · rw [if_neg h] at p; exact p.elim
  | _ => exact (show False from p).elim
/-! ### int(text) -/
def dIntT : D → Res D
  | .str a => match PySem.intText? a with
    | some n => if a.length ≤ 640 then .ok (.int n) else .bad
    | none => .bad
  | _ => .bad
theorem c1_intT {X : Cx} {W : WX} : Call1 X W (.type "int") dIntT := by
  refine ⟨_, call_int_str, fun σ H G x dx Q sg rx p => ?_⟩
  cases dx with
  | str a =>
    cases (show x = .str a from rx)
    dsimp only [dIntT] at p
    cases hn : PySem.intText? a with
    | none => rw [hn] at p; exact p.elim
    | some n =>
      rw [hn] at p
      dsimp only at p
      by_cases h : a.length ≤ 640
      · rw [if_pos h] at p
        exact ⟨a, n, rfl, hn, h, p.val sg rfl⟩
      · rw [if_neg h] at p; exact p.elim
  | _ => exact (show False from p).elim
/-! ### texts in a row -/
def D.strs : List D → Option (List Str)
  | [] => some []
  | .str x :: r => (D.strs r).map fun ns => x :: ns
  | _ :: _ => none
theorem strs_eq : ∀ {ds : List D} {ns : List Str}, D.strs ds = some ns → ds = ns.map D.str
  | [], ns, h => by cases h; rfl
  | d :: r, ns, h => by
    cases d with
    | str i =>
      dsimp only [D.strs] at h
      cases e : D.strs r with
      | none => rw [e] at h; cases h
      | some ms => rw [e] at h; cases h; rw [strs_eq e]; rfl
    | _ => cases h
theorem strs_map : ∀ ns : List Str, D.strs (ns.map D.str) = some ns
  | [] => rfl
  | n :: r => by show (D.strs (r.map D.str)).map _ = _; rw [strs_map r]; rfl
/-! ### sep.join(texts) -/
open Classical in
noncomputable def dJoin (a d : D) : Res D := match a with
  | .str x => match seqOf d with
    | some ds => match D.strs ds with
      | some ys => if (ys.map (·.length)).sum + ys.length * x.length ≤ 16777216 then .ok (.str (Txt.join x ys)) else .bad
      | none => .bad
    | none => .bad
  | _ => .bad
noncomputable def eJoin (fa fd : DL.Env → Res D) : DL.Env → Res D := fun e => (fa e).bind fun a => match a with
  | .str x => (fd e).bind fun d => dJoin (.str x) d
  | _ => .bad
theorem seqOf_repC {K : PySem.W.Frag} {H G : Hp} {d : D} {v : V} {xs : List D} (sg : Sub G H) (h : seqOf d = some xs) (r : RepC K H G d v) : ∃ a t vs, v = .ref a ∧ SqB K t H a vs ∧ RepL K G xs vs := by
  cases d with
  | lst ys => cases h; obtain ⟨a, vs, rfl, s, q⟩ := r; exact ⟨a, false, vs, rfl, s, q⟩
  | tup ys => cases h; obtain ⟨a, vs, rfl, s, q⟩ := (show Rep K G (.tup _) v from r); exact ⟨a, true, vs, rfl, sg.pt s, q⟩
  | con ys => cases h; obtain ⟨a, vs, rfl, s, q⟩ := (show Rep K G (.con _) v from r); exact ⟨a, true, vs, rfl, sg.sqt s.sqt, q⟩
  | _ => cases h
section
variable {X : Cx} {W : WX} {A : Nat → Prop} {o ex : Expr} {apos pos : Pos}
theorem de_join {fa fd : DL.Env → Res D} (ho : DR X W A o fa) (he : DR X W A ex fd)
    (hs : starEach [ex] X.env = [(false, eval ex X.env)] := by rfl) (hbase : attributeBase o "join" X.env (eval o X.env) = eval o X.env := by rfl) (hline : (apos.endLine == pos.line) = true := by rfl) :
    DE X W A (.Call (.Attribute o "join" apos) [ex] [] pos) (eJoin fa fd) :=
  (pe_join ho he hs hbase hline).imp fun σ H Q ⟨e, G, E, q⟩ => ⟨e, G, E, q.split.imp fun a H1 G1 x1 q1 v rv => by
    cases a with
    | str x =>
      cases (show v = .str x from rv)
      refine ⟨⟨x, rfl⟩, e, G1, E.ext x1, q1.split.imp fun d H2 G2 x2 q2 u ru => ?_⟩
      dsimp only [dJoin] at q2
      cases hd : seqOf d with
      | none => rw [hd] at q2; exact q2.elim
      | some ds =>
        rw [hd] at q2
        dsimp only at q2
        cases hy : D.strs ds with
        | none => rw [hy] at q2; exact q2.elim
        | some ys =>
          rw [hy] at q2
          dsimp only at q2
          by_cases hz : (ys.map (·.length)).sum + ys.length * x.length ≤ 16777216
          · rw [if_pos hz] at q2
            obtain ⟨c, t, vs, rfl, s, k⟩ := seqOf_repC x2.gh hd ru
            rw [strs_eq hy] at k
            have ev := RepL.strs k
            subst ev
            refine ⟨x, c, ys, rfl, rfl, ?_, hz, q2.val x2.gh rfl⟩
            cases t with
            | true => exact .inr s
            | false => exact .inl s
          · rw [if_neg hz] at q2; exact q2.elim
    | _ => exact (show False from q1).elim⟩
/-! ### f-strings -/
/-- the parts' judgements -/
inductive DJ (X : Cx) (W : WX) (A : Nat → Prop) : List Expr → List (DL.Env → Res D) → Prop where
  | nil : DJ X W A [] []
  | cons {e : Expr} {f : DL.Env → Res D} {es : List Expr} {fs : List (DL.Env → Res D)} (h : DE X W A e f) (r : DJ X W A es fs) : DJ X W A (e :: es) (f :: fs)
end
end DL
namespace L2
open PySem PySem.Spec PyProof.Rows
section
variable {X : Cx} {o : Expr} {apos mpos : Pos} {td : TE}
end
end L2
namespace DL
open PySem PySem.Spec PyProof.Rows L2
section
variable {X : Cx} {W : WX} {A : Nat → Prop} {o : Expr} {apos mpos p pos : Pos}
/-! ### x.split(sep) -/
def dSplit (a b : D) : Res D := match a, b with
  | .str x, .str y => if (y.length == 0) = false ∧ x.length + 2 ≤ sizeLine then .ok (.lst ((Txt.split x y).map D.str)) else .bad
  | _, _ => .bad
def eSplit (fa fb : DL.Env → Res D) : DL.Env → Res D := fun e => (fa e).bind fun a => match a with
  | .str x => (fb e).bind fun b => dSplit (.str x) b
  | _ => .bad
theorem df_split {ex : Expr} {fa fb : DL.Env → Res D} (ho : DR X W A o fa) (he : DR X W A ex fb)
    (hs : starEach [ex] X.env = [(false, eval ex X.env)] := by rfl) (hbase : attributeBase o "split" X.env (eval o X.env) = eval o X.env := by rfl) (hline : (apos.endLine == pos.line) = true := by rfl) :
    DF X W A (.Call (.Attribute o "split" apos) [ex] [] pos) (eSplit fa fb) :=
  (pe_split ho he hs hbase hline).imp fun σ H Q ⟨e, G, E, q⟩ => ⟨e, G, E, q.split.imp fun a H1 G1 x1 q1 v rv => by
    cases a with
    | str x =>
      cases (show v = .str x from rv)
      refine ⟨⟨x, rfl⟩, e, G1, E.ext x1, q1.split.imp fun b H2 G2 x2 q2 u ru => ?_⟩
      cases b with
      | str y =>
        cases (show u = .str y from ru)
        dsimp only [dSplit] at q2
        by_cases hz : (y.length == 0) = false ∧ x.length + 2 ≤ sizeLine
        · rw [if_pos hz] at q2
          refine ⟨x, y, rfl, rfl, hz.1, hz.2, fun p hp => ?_⟩
          have sb : Sub H2 (upd H2 p (.lst ((Txt.split x y).map V.str))) := Sub.upd hp
          have hp1 : H1 p = none := x2.hh.free hp
          have hpH : H p = none := x1.hh.free hp1
          refine q2 _ G2 ⟨sb, Sub.refl _, x2.gh.trans sb, fun b z => .inl z⟩ p hpH (x2.gh.free hp) ?_
          refine ⟨_, upd_same, ?_⟩
          have rs : ∀ ys : List Str, RepL X.K G2 (ys.map D.str) (ys.map V.str) := fun ys => by
            induction ys with
            | nil => rfl
            | cons y ys ih => exact ⟨_, _, rfl, rfl, ih⟩
          exact rs _
        · rw [if_neg hz] at q2; exact q2.elim
      | _ => exact (show False from q2).elim
    | _ => exact (show False from q1).elim⟩
end
end DL

/-! several except clauses, each with a name for the error -/
namespace L2
open PySem PySem.Spec PyProof.Rows
/-- what such clauses wish of an exception of the body, one after the other -/
def wAsL (K : PySem.W.Frag) (Wout : WX) (D : Ends) : List (Value × Nat × (Addr → Value → Option Addr → TS)) → WX
  | [] => Wout
  | (c, i, ts) :: r => fun cls d σ H => ∃ b, PySem.W.exmOne K cls c = some b ∧
      (b = true → ∀ a, H a = none → ts a cls d { nx := fun σ' H' => D.nx (σ'.set i none) H', rt := D.rt, bk := fun σ' H' => D.bk (σ'.set i none) H', ct := fun σ' H' => D.ct (σ'.set i none) H' } (σ.set i (some (.ref a))) H) ∧
      (b = false → wAsL K Wout D r cls d σ H)
inductive HdAs (X : Cx) : List ExceptHandler → List (Value × Nat × (Addr → Value → Option Addr → TS)) → Prop
  | nil : HdAs X [] []
  | cons {x n : Str} {c : Value} {i : Nat} {ts : Addr → Value → Option Addr → TS} {b₀ : Stmt} {suite : List Stmt} {np pos' : Pos} {hds : List ExceptHandler} {l : List (Value × Nat × (Addr → Value → Option Addr → TS))} (hc : Names X x c)
      (hi : X.N[i]? = some n) (hln : X.env.kindOf n = some .local)
      (hsu : ∀ (a : Addr) (oe : Obj) (cls : Value) (d : Option Addr) (pn : List (Addr × Obj)), Zc cls d oe → (∃ vs, oe.data = .fields vs) → PSs (X.suite a ((a, oe) :: pn)) (b₀ :: suite) (ts a cls d)) (r : HdAs X hds l) :
      HdAs X (.ExceptHandler (some (.Name x np)) (some n) (b₀ :: suite) pos' :: hds) ((c, i, ts) :: l)
section
variable {X : Cx} {body : List Stmt} {h₀ : ExceptHandler} {hds : List ExceptHandler} {l : List (Value × Nat × (Addr → Value → Option Addr → TS))} {pos : Pos} {tb : WX → TS} {Wout : WX}
theorem ps_try_asL (hs : X.stack = X.env :: X.outer) (hf : X.env.frame = some X.env.locals) (hN : X.N.Nodup) (tk : Takes X Wout)
    (hb : ∀ (W : WX) (pn : List (Addr × Obj)) (xe : Value → Shared → Prop), Takes (X.tr pn xe) W → PassesOwn (model X.prog X.w) X.A X.env xe → PSs (X.tr pn xe) body (tb W))
    (hh : HdAs X (h₀ :: hds) l) : PS X (.Try body (h₀ :: hds) [] [] pos) (fun D σ H => tb (wAsL X.K Wout D l) D σ H) := by
  refine ⟨fun pins s σ H D I h => ?_⟩
  have ok := I.ok
  have hfr : X.A.frames = some (X.env :: X.outer) := by rw [ok.frames, hs]
  refine wpAny_Try_except (wpAny_mono ((hb (wAsL X.K Wout D l) (X.pn ++ pins) (fun e s₁ => wpAny (model X.prog X.w) X.A (noteFrame e X.env) (fun _ s₂ => wpAny (model X.prog X.w) X.A (setFlight e none) (fun _ s₃ =>
    wpAny (model X.prog X.w) X.A (handleBy e X.env (h₀ :: hds)) (SP X pins D) X.xe s₃) X.xe s₂) X.xe s₁) (fun u s' xx => ?_) PassesOwn.looking).run [] s σ H D (I.toTry _) h) (fun f s1 hsp => ?_) (fun e s1 he => he))
  · obtain ⟨a, B, sI, pins', σ', H', cls, d, rfl, J', nb, up, sky, na, os, ag, w⟩ := xx
    have J : Inv X pins σ' H' sI := J'.ofTry ok
    have sky' : Sky B (X.env :: X.outer) a (Zc cls d) X.env.locals s'.heap := by rw [← hs]; exact sky
    show wpAny (model X.prog X.w) X.A (noteFrame (.ref a) X.env) _ _ _
    refine Sky.land Zc.steady hfr hf sky' fun h3 fl3 up3 => ?_
    have J3 : Inv X pins σ' H' { s' with heap := h3 } := J.landed nb fl3.1 (up.trans up3) os ag
    obtain ⟨oe3, vs3, he3, hz3, hd3⟩ := fl3.there
    have nfr : a ∉ frs (X.env :: X.outer) := fun hm => by
      obtain ⟨_, o', e', hnf⟩ := fl3.2.2.1.mem hm
      rw [he3] at e'; cases e'
      exact hnf _ hd3
    have nL : a ≠ X.env.locals := fun z => nfr (List.mem_filterMap.mpr ⟨X.env, List.mem_cons_self, by rw [hf, z]⟩)
    have nF : a ∉ X.fs := fun hm => by
      obtain ⟨e, he, q⟩ := List.mem_filterMap.mp hm
      exact nfr (List.mem_filterMap.mpr ⟨e, List.mem_cons_of_mem _ he, q⟩)
    have S3 := J3.suite he3 hd3 na nL nF
    have go : ∀ {hds' : List ExceptHandler} {l' : List (Value × Nat × (Addr → Value → Option Addr → TS))}, HdAs X hds' l' → wAsL X.K Wout D l' cls d σ' H' →
        wpAny (model X.prog X.w) X.A (handleBy (.ref a) X.env hds') (SP X pins D) X.xe { s' with heap := h3 } := by
      intro hds' l' hk
      induction hk with
      | nil =>
        intro w
        refine wpAny_handleBy_nil ?_
        obtain ⟨k1, k2, k3, oe, vs, T, oT, ts', he, hz, hd, h1, hr⟩ := id fl3
        unfold PySem.passOn
        refine wpAny_bind (wpAny_field he hd h1 ?_)
        rw [if_neg (show ¬ ((Value.ref T == Value.none) = true) from by simp)]
        have fin : wpAny (model X.prog X.w) X.A (setFlight (.ref a) X.env.frame) (fun _ s4 => wpAny (model X.prog X.w) X.A (throw (.ref a) : Sem Flow) (SP X pins D) X.xe s4) X.xe { s' with heap := h3 } := by
          rw [hf]
          exact HandSPX.setFlight_upZ fl3 fun h4 hh4 up4 => wpAny_throw (tk _ _ ⟨a, B, sI, pins, σ', H', cls, d, rfl, J, nb, (up.trans up3).trans up4, .inr (.inr (by rw [hs]; exact hh4)), na, os, ag, w⟩)
        first
          | exact wpAny_bind (wpAny_pure (wpAny_bind fin))
          | exact wpAny_bind fin
      | @cons x n c i ts b₀ suite np pos' hds2 l2 hc hi hln hsu r ih =>
        intro w
        obtain ⟨b, hb1, hyes, hno⟩ := w
        have hloc : Loc X.env.scope n := .inl hln
        have LT : PySem.W.Looks (model X.prog X.w) h3 (typeOf (.ref a)) cls := fun A Q E s k q => wpAny_typeOf_ref (k _ _ he3) (by rw [hz3.1]; exact q)
        have LM := PySem.W.exm_one (M := model X.prog X.w) (J3.kIn) LT hb1
        refine wpAny_handleBy_cons (codeAny_handlers_test ?_) (by intro q; cases q)
        have test : ∀ {Q : Value → Shared → Prop} {E : Value → Shared → Prop}, Q c { s' with heap := h3 } → wpAny (model X.prog X.w) (X.A.mark (some (.ref a))) (eval (.Name x np) X.env) Q E { s' with heap := h3 } := fun {Q E} q => by
          obtain ⟨hg, hdbg, hm | ⟨hm, hv, hnn⟩⟩ := hc
          · exact ld_glob (X := X.suite a ((a, oe3) :: (X.pn ++ pins))) S3 hg hm q hdbg
          · exact ld_blt (X := X.suite a ((a, oe3) :: (X.pn ++ pins))) S3 hg hm hv q hnn hdbg
        refine test (LM.here ?_)
        cases b with
        | false =>
          show wpAny _ X.A (handleBy (.ref a) X.env hds2) _ _ _
          exact ih (hno rfl)
        | true =>
          refine codeAny_handlers_suite_as (HandSPX.lands_againZ fl3 fun h4 fl4 up4 => ?_)
          have J4 : Inv X pins σ' H' { s' with heap := h4 } := J.landed nb fl4.1 ((up.trans up3).trans up4) os ag
          obtain ⟨oe4, vs4, he4, hz4, hd4⟩ := fl4.there
          have S4 := J4.suite he4 hd4 na nL nF
          refine store_ok (X := X.suite a ((a, oe4) :: (X.pn ++ pins))) (v := .ref a) S4 hN hi hloc rfl (fun s5 S5 => ?_) (.inr hln)
          refine wpAny_mono ((hsu a oe4 cls d (X.pn ++ pins) hz4 ⟨_, hd4⟩).run [] s5 _ H' _ S5 (hyes rfl a na)) (fun f s6 hsp => ?_) (fun _ _ z => False.elim z)
          have end_ : ∀ {σ6 : St} {H6 : Hp} {Q : Shared → Prop}, Inv (X.suite a ((a, oe4) :: (X.pn ++ pins))) [] σ6 H6 s6 → (∀ s7, Inv X pins (σ6.set i none) H6 s7 → Q s7) →
              wpAny (model X.prog X.w) X.A (do bindName X.env n .none; unbindBehindTheSuite X.env n pos') (fun _ s7 => Q s7) X.xe s6 := fun {σ6 H6 Q} S6 hq => gone_ok (S6.unsuite ok) hN hi hln hq
          cases f with
          | next => obtain ⟨σ6, H6, S6, q6⟩ := hsp; exact end_ S6 fun s7 J7 => ⟨_, _, J7, q6⟩
          | brk => obtain ⟨σ6, H6, S6, q6⟩ := hsp; exact end_ S6 fun s7 J7 => ⟨_, _, J7, q6⟩
          | cont => obtain ⟨σ6, H6, S6, q6⟩ := hsp; exact end_ S6 fun s7 J7 => ⟨_, _, J7, q6⟩
          | ret u => obtain ⟨v6, σ6, H6, S6, r6, q6⟩ := hsp; exact end_ S6 fun s7 J7 => ⟨_, _, _, J7, r6, q6⟩
    exact go hh w
  · cases f with
    | next => obtain ⟨σ', H', J', q⟩ := hsp; exact wpAny_execs_nil ⟨σ', H', J'.ofTry ok, q⟩
    | brk => obtain ⟨σ', H', J', q⟩ := hsp; exact ⟨σ', H', J'.ofTry ok, q⟩
    | cont => obtain ⟨σ', H', J', q⟩ := hsp; exact ⟨σ', H', J'.ofTry ok, q⟩
    | ret u => obtain ⟨v, σ', H', J', r, q⟩ := hsp; exact ⟨v, σ', H', J'.ofTry ok, r, q⟩
end
end L2
namespace DL
open PySem PySem.Spec PyProof.Rows L2
/-- a clause: the slot of its name, what it does at each class, its suite -/
abbrev Hdl := Nat × (String → Option Bool) × (Addr → String → DL.Env → Out)
noncomputable def hdlL (c : String) (fs : List (D × D)) (e : DL.Env) : List Hdl → Out
  | [] => .ex c fs e
  | (i, h, f) :: r => match h c with
    | some true => if fs = [] then unif fun a => clrN i (f a c (e.set i (some (.obj (.ref a), false)))) else .bad
    | some false => hdlL c fs e r
    | none => .bad
section
variable {X : Cx} {W : WX} {pos : Pos} {H0 : Bas} {G0 : Hp}
inductive HdD (X : Cx) (H0 : Bas) (G0 : Hp) : List ExceptHandler → List Hdl → Prop
  | nil : HdD X H0 G0 [] []
  | cons {i : Nat} {x n : Str} {c : Value} {suite : List Stmt} {b₀ : Stmt} {np pos' : Pos} {h : String → Option Bool} {fs : Addr → String → DL.Env → Out} {hds : List ExceptHandler} {l : List Hdl} (hi : X.N[i]? = some n) (hln : X.env.kindOf n = some .local) (hc : Names X x c) (hh : Clause X.K X.mg c h)
    (hsu : ∀ (a : Addr) (oe : Obj) (cls : Value) (pn : List (Addr × Obj)) (k : String), Zc cls none oe → (∃ vs, oe.data = .fields vs) → X.mg (Str.ofString k) = some cls → DSs (X.suite a ((a, oe) :: pn)) WF H0 G0 (b₀ :: suite) (fs a k)) (r : HdD X H0 G0 hds l) :
    HdD X H0 G0 (.ExceptHandler (some (.Name x np)) (some n) (b₀ :: suite) pos' :: hds) ((i, h, fs) :: l)
theorem HdD.as {hds : List ExceptHandler} {l : List Hdl} (hd : HdD X H0 G0 hds l) : ∃ l', HdAs X hds l' ∧ ∀ (Z : Ends) (c : String) (fs : List (D × D)) (e : DL.Env),
    SPost X.K X.mg W H0 G0 (hdlL c fs e l) Z → ∀ (cls : Value) (o : Option Addr) (σ' : L2.St) (H' G' H2 : Hp), StOk X.K H0 G0 σ' e H' G' → Sub H' H2 → IsExc X.K X.mg c fs cls o H' H2 → wAsL X.K W Z l' cls o σ' H2 := by
  induction hd with
  | nil => exact ⟨[], .nil, fun Z c fs e q cls o σ' H' G' H2 S' s2 ix => q cls o σ' H' G' H2 S' s2 ix⟩
  | @cons i x n cv suite b₀ np pos' h fs hds l hi hln hc hh hsu r ih =>
    obtain ⟨l', hl, hq⟩ := ih
    refine ⟨(cv, i, fun a cls d Z σ H => ∃ k, X.mg (Str.ofString k) = some cls ∧ d = none ∧ tS X.K X.mg WF H0 G0 (fs a k) Z σ H) :: l', .cons hc hi hln (fun a oe cls d pn hz hd => ⟨fun pins s σ H Z I ⟨k, hk, hn, t⟩ => ?_⟩) hl, fun Z k fs' e' q cls o σ' H' G' H2 S' s2 ix => ?_⟩
    · subst hn
      exact (hsu a oe cls pn k hz hd hk).run pins s σ H Z I t
    · unfold hdlL at q
      cases hk : h k with
      | none => rw [hk] at q; exact q.elim
      | some b =>
        refine ⟨b, hh k b cls hk ix.1, fun eb a _ => ?_, fun eb => ?_⟩
        · subst eb
          rw [hk] at q
          dsimp only at q
          by_cases hfs : fs' = []
          · rw [if_pos hfs] at q
            have ho : o = none := by
              cases o with
              | none => rfl
              | some d => exact absurd hfs ix.2.1
            subst ho
            have S2 : StOk X.K H0 G0 σ' e' H2 G' := ⟨⟨S'.ext.hh.trans s2, S'.ext.gg, S'.ext.gh.trans s2, S'.ext.new⟩, S'.len, S'.sh, fun i d h => let ⟨a, q1, q2, q3, q4⟩ := S'.ow i d h; ⟨a, q1, q2, q3, q4.mono s2 (Sub.refl _)⟩, S'.ne, S'.pn⟩
            have S3 := S2.set i (d := .obj (.ref a)) (v := .ref a) rfl
            refine ⟨k, ix.1, rfl, _, G', S3, ?_⟩
            have nb : unif (fun a => clrN i (fs a k (e'.set i (some (.obj (.ref a), false))))) ≠ .bad := fun z => by rw [z] at q; exact q
            rw [unif_at nb a] at q
            cases hq : fs a k (e'.set i (some (.obj (.ref a), false))) with
            | nx e2 => rw [hq] at q; exact fun σ5 H5 G5 S5 => q _ H5 G5 (S5.clear i)
            | bk e2 => rw [hq] at q; exact fun σ5 H5 G5 S5 => q _ H5 G5 (S5.clear i)
            | ct e2 => rw [hq] at q; exact fun σ5 H5 G5 S5 => q _ H5 G5 (S5.clear i)
            | rt d => rw [hq] at q; exact q
            | ro d => rw [hq] at q; exact q
            | rm d e2 => rw [hq] at q; exact fun v σ5 H5 G5 S5 r5 => q v _ H5 G5 (S5.clear i) r5
            | ex c' f' e2 => rw [hq] at q; exact q.elim
            | bad => rw [hq] at q; exact q.elim
          · rw [if_neg hfs] at q; exact q.elim
        · subst eb
          rw [hk] at q
          exact hq Z k fs' e' q cls o σ' H' G' H2 S' s2 ix
end
end DL

/-! a loop over a list of one's own that is kept one's own: through the loop its name stands for the bare value -/
namespace DL
open PySem PySem.Spec PyProof.Rows L2
mutual
/-- numbers, texts, truth values, nothing, and tuples of these -/
def D.tfl : D → Bool
  | .non => true
  | .bl _ => true
  | .int _ => true
  | .str _ => true
  | .tup ds => D.tfls ds
  | _ => false
def D.tfls : List D → Bool
  | [] => true
  | d :: r => D.tfl d && D.tfls r
end
/-- the part G without what stands at a -/
def delA (G : Hp) (a : Addr) : Hp := fun b => if b = a then none else G b
theorem delA_ne {G : Hp} {a b : Addr} (h : b ≠ a) : delA G a b = G b := if_neg h
theorem delA_at {G : Hp} {a : Addr} : delA G a a = none := if_pos rfl
theorem delA_sub (G : Hp) (a : Addr) : Sub (delA G a) G := fun b o e => by
  by_cases h : b = a
  · subst h; rw [delA_at] at e; cases e
  · rw [delA_ne h] at e; exact e
mutual
theorem Rep.del {K : PySem.W.Frag} {G : Hp} {a : Addr} (ha : ∀ vs, G a ≠ some (.tup vs)) : ∀ {d : D} {v : V}, d.tfl = true → Rep K G d v → Rep K (delA G a) d v
  | .non, _, _, e => e
  | .bl _, _, _, e => e
  | .int _, _, _, e => e
  | .str _, _, _, e => e
  | .tup ds, _, f, ⟨t, vs, e, s, r⟩ => ⟨t, vs, e, by rw [delA_ne (fun z => ha vs (by rw [← z]; exact s))]; exact s, RepL.del ha (show D.tfls ds = true from f) r⟩
  | .obj _, _, f, _ => by cases f
  | .err _ _, _, f, _ => by cases f
  | .exn _ _ _, _, f, _ => by cases f
  | .con _, _, f, _ => by cases f
  | .lst _, _, f, _ => by cases f
  | .dct _ _, _, f, _ => by cases f
theorem RepL.del {K : PySem.W.Frag} {G : Hp} {a : Addr} (ha : ∀ vs, G a ≠ some (.tup vs)) : ∀ {ds : List D} {vs : List V}, D.tfls ds = true → RepL K G ds vs → RepL K (delA G a) ds vs
  | [], _, _, e => e
  | d :: r, _, f, ⟨v, w, e, x, y⟩ => ⟨v, w, e, Rep.del ha (Bool.and_eq_true_iff.mp f).1 x, RepL.del ha (Bool.and_eq_true_iff.mp f).2 y⟩
end
theorem Ext.del {H G H' G' : Hp} {a : Addr} {o : HO} (g : G a = none) (x : Ext H (upd G a o) H' G') : Ext H G H' (delA G' a) := by
  refine ⟨x.hh, fun b u e => ?_, (delA_sub G' a).trans x.gh, fun b z => ?_⟩
  · have hb : b ≠ a := fun z => by rw [z, g] at e; cases e
    rw [delA_ne hb]
    exact x.gg b u (by rw [upd_ne hb]; exact e)
  · by_cases hb : b = a
    · subst hb; exact absurd delA_at z
    · rw [delA_ne hb] at z
      rcases x.new b z with h | h
      · rw [upd_ne hb] at h; exact .inl h
      · exact .inr h
section
variable {K : PySem.W.Frag} {H0 : Bas} {G0 H G : Hp} {σ : L2.St} {e : Env}
end
section
variable {X : Cx} {W : WX} {H0 : Bas} {G0 : Hp} {pos : Pos}
end
end DL

namespace DL
open PySem PySem.Spec PyProof.Rows L2
open PySem.Builtin.Int (intBits)

/-- a bound that range takes -/
def Rg (n : Int) : Prop := -(2 ^ 62) ≤ n ∧ n < 2 ^ 62
theorem Rg.of {n : Int} (h : -1000000000 ≤ n) (k : n ≤ 1000000000) : Rg n := ⟨by omega, by omega⟩
open Classical in
noncomputable def range1D : D → Res (List D) := fun d => match d with
  | .int n => if Rg n then .ok (rangeD 0 n) else .bad
  | _ => .bad
open Classical in
noncomputable def range2D : D → D → Res (List D) := fun d d2 => match d, d2 with
  | .int m, .int n => if Rg m ∧ Rg n then .ok (rangeD m n) else .bad
  | _, _ => .bad
@[simp] theorem range1D_int (n : Int) (h : Rg n) : range1D (.int n) = .ok (rangeD 0 n) := if_pos h
@[simp] theorem range2D_int (m n : Int) (h : Rg m) (k : Rg n) : range2D (.int m) (.int n) = .ok (rangeD m n) := if_pos ⟨h, k⟩
theorem iRange1_is (f : DL.Env → Res D) (e : DL.Env) : iRange1 f e = (f e).bind range1D := by
  unfold iRange1
  congr 1
  funext d
  cases d with
  | int n =>
    dsimp only [range1D]
    by_cases h : Rg n
    · rw [if_pos (show -(2 ^ 62) ≤ n ∧ n < 2 ^ 62 from h), if_pos h]
    · rw [if_neg (show ¬ (-(2 ^ 62) ≤ n ∧ n < 2 ^ 62) from h), if_neg h]
  | _ => rfl
theorem iRange2_is (f g : DL.Env → Res D) (e : DL.Env) : iRange2 f g e = (f e).bind fun d => (g e).bind fun d2 => range2D d d2 := by
  unfold iRange2
  congr 1
  funext d
  congr 1
  funext d2
  cases d with
  | int m =>
    cases d2 with
    | int n =>
      dsimp only [range2D]
      by_cases h : Rg m ∧ Rg n
      · rw [if_pos h, if_pos ⟨h.1.1, h.1.2, h.2.1, h.2.2⟩]
      · rw [if_neg h, if_neg fun z => h ⟨⟨z.1, z.2.1⟩, z.2.2.1, z.2.2.2⟩]
    | _ => rfl
  | _ => rfl
/-! ### a body's reckoning, step by step -/
section
variable (al : List Nat) (i : Nat) (e : DL.Env) (f fa fb fc : DL.Env → Res D) (ft fu : DL.Env → Res Bool) (g h : DL.Env → Out) (fs : DL.Env → Res (List D)) (d : D) (ds : List D) (op : D → D → Res D) (op1 : D → Res D)
@[simp] theorem eVarS_app : eVarS i e = (match e[i]? with | some (some (d, false)) => .ok d | _ => .bad) := Eq.trans rfl rfl
@[simp] theorem eVar_app : eVar i e = (match e[i]? with | some (some (d, _)) => .ok d | _ => .bad) := Eq.trans rfl rfl
@[simp] theorem eC_app : eC d e = .ok d := Eq.trans rfl rfl
@[simp] theorem eOp_app : eOp op fa fb e = (fa e).bind fun x => (fb e).bind fun y => op x y := Eq.trans rfl rfl
@[simp] theorem e1_app : e1 op1 f e = (f e).bind op1 := Eq.trans rfl rfl
@[simp] theorem eNeg_app : eNeg f e = (f e).bind fun x => (match x with | .int i => .ok (.int (-i)) | _ => .bad) := Eq.trans rfl rfl
@[simp] theorem eTup_app : eTup fs e = (fs e).bind fun ds => .ok (.tup ds) := Eq.trans rfl rfl
@[simp] theorem eLst_app : eLst fs e = (fs e).bind fun ds => .ok (.lst ds) := Eq.trans rfl rfl
@[simp] theorem aNil_app : aNil e = .ok [] := Eq.trans rfl rfl
@[simp] theorem aCons_app : aCons f fs e = (f e).bind fun d => (fs e).bind fun ds => .ok (d :: ds) := Eq.trans rfl rfl
@[simp] theorem eCall_app (F : List D → Res D) : eCall F fs e = (fs e).bind F := Eq.trans rfl rfl
@[simp] theorem eAnd_app : eAnd fa fb e = (fa e).bind fun x => (D.asB x).bind fun b => if b = true then fb e else .ok (.bl false) := Eq.trans rfl rfl
@[simp] theorem eOr_app : eOr fa fb e = (fa e).bind fun x => (D.asB x).bind fun b => if b = true then .ok (.bl true) else fb e := Eq.trans rfl rfl
@[simp] theorem eNot_app : eNot f e = (f e).bind fun x => (D.asB x).bind fun b => .ok (.bl (!b)) := Eq.trans rfl rfl
@[simp] theorem eIf_app : eIf ft fa fb e = (ft e).bind fun b => if b = true then fa e else fb e := Eq.trans rfl rfl
@[simp] theorem bTest_app : bTest op fa fb e = (fa e).bind fun x => (fb e).bind fun y => (op x y).bind D.asB := Eq.trans rfl rfl
@[simp] theorem bTruth_app : bTruth f e = (f e).bind D.truth := Eq.trans rfl rfl
@[simp] theorem bAnd_app : bAnd ft fu e = (ft e).bind fun b => if b = true then fu e else .ok false := Eq.trans rfl rfl
@[simp] theorem bOr_app : bOr ft fu e = (ft e).bind fun b => if b = true then .ok true else fu e := Eq.trans rfl rfl
@[simp] theorem bNot_app : bNot ft e = (ft e).bind fun b => .ok (!b) := Eq.trans rfl rfl
@[simp] theorem bVal_app : bVal f e = (f e).bind D.asB := Eq.trans rfl rfl
@[simp] theorem oNone_app : oNone e = .ok none := Eq.trans rfl rfl
@[simp] theorem oSome_app : oSome f e = (f e).bind fun d => (match d with | .int i => .ok (some i) | _ => .bad) := Eq.trans rfl rfl
@[simp] theorem eCut_app (fl fh : DL.Env → Res (Option Int)) : eCut f fl fh e = (f e).bind fun d => (fl e).bind fun lo => (fh e).bind fun hi => dCut lo hi d := Eq.trans rfl rfl
@[simp] theorem iSeq_app : iSeq f e = (f e).bind fun d => (match d with | .lst xs => .ok xs | .tup xs => .ok xs | .con xs => .ok xs | _ => .bad) := Eq.trans rfl rfl
@[simp] theorem iRange1_app : iRange1 f e = (f e).bind range1D := iRange1_is f e
@[simp] theorem iRange2_app : iRange2 fa fb e = (fa e).bind fun d => (fb e).bind fun d2 => range2D d d2 := iRange2_is fa fb e
@[simp] theorem iRange3_app : iRange3 fa fb fc e = (fa e).bind fun x => (fb e).bind fun y => (fc e).bind fun z => r3D x y z := Eq.trans rfl rfl
@[simp] theorem r3D_int (i j c : Int) : r3D (.int i) (.int j) (.int c) = rg3 i j c := Eq.trans rfl rfl
@[simp] theorem sTry_app (hh : String → Option Bool) : sTry hh g h e = (match g e with | .ex c fs' e' => (match hh c with | some true => noEx (h e') | some false => .ex c fs' e' | none => .bad) | r => r) := Eq.trans rfl rfl
@[simp] theorem sTryAs_app (hh : String → Option Bool) (fs : Addr → String → DL.Env → Out) : sTryAs i hh g fs e = (match g e with | .ex c fs' e' => (match hh c with | some true => if fs' = [] then unif (fun a => clrN i (fs a c (e'.set i (some (.obj (.ref a), false))))) else .bad | some false => .ex c fs' e' | none => .bad) | r => r) := Eq.trans rfl rfl
@[simp] theorem clrN_nx : clrN i (.nx e) = .nx (e.set i none) := Eq.trans rfl rfl
@[simp] theorem clrN_rt : clrN i (.rt d) = .rt d := Eq.trans rfl rfl
@[simp] theorem clrN_ro : clrN i (.ro d) = .ro d := Eq.trans rfl rfl
@[simp] theorem unif_const (r : Out) : (unif fun _ => r) = r := unif_of fun _ => rfl
@[simp] theorem eIsE_app (a : Addr) (o : Option Bool) : eIsE i a o e = (match e[i]? with | some (some (.obj (.ref a'), false)) => if a' = a then (match o with | some b => .ok (.bl b) | none => .bad) else .bad | _ => .bad) := Eq.trans rfl rfl
@[simp] theorem dStr_bl (b : Bool) : dStr (.bl b) = .ok (.str (if b = true then "True" else "False")) := Eq.trans rfl rfl
@[simp] theorem noEx_nx : noEx (.nx e) = .nx e := Eq.trans rfl rfl
@[simp] theorem noEx_rt : noEx (.rt d) = .rt d := Eq.trans rfl rfl
@[simp] theorem noEx_ro : noEx (.ro d) = .ro d := Eq.trans rfl rfl
@[simp] theorem sRetO_app : sRetO i e = (match e[i]? with | some (some (d, true)) => .ro d | some (some (d, false)) => .rt d | _ => .bad) := Eq.trans rfl rfl
@[simp] theorem sRetF_app : sRetF al f e = (match f e with | .ok d => .ro d | .exc c fs => .ex c fs (fz al e) | .bad => .bad) := by unfold sRetF sE; cases f e <;> rfl
@[simp] theorem sSkip_app : sSkip e = .nx e := Eq.trans rfl rfl
@[simp] theorem sBreak_app : sBreak e = .bk e := Eq.trans rfl rfl
@[simp] theorem sCont_app : sCont e = .ct e := Eq.trans rfl rfl
@[simp] theorem sRetN_app : sRetN e = .rt .non := Eq.trans rfl rfl
@[simp] theorem sRaise_app (c : String) : sRaise c e = .ex c [] e := Eq.trans rfl rfl
@[simp] theorem sSeq_app : sSeq g h e = (match g e with | .nx e' => h e' | r => r) := Eq.trans rfl rfl
@[simp] theorem sIf_app : sIf al ft g h e = (match ft e with | .ok b => if b = true then g (fz al e) else h (fz al e) | .exc c fs => .ex c fs (fz al e) | .bad => .bad) := by unfold sIf sE; cases ft e <;> rfl
@[simp] theorem sRet_app : sRet al f e = (match f e with | .ok d => .rt d | .exc c fs => .ex c fs (fz al e) | .bad => .bad) := by unfold sRet sE; cases f e <;> rfl
@[simp] theorem sDrop_app : sDrop al f e = (match f e with | .ok d => .nx (fz al e) | .exc c fs => .ex c fs (fz al e) | .bad => .bad) := by unfold sDrop sE; cases f e <;> rfl
@[simp] theorem sSet_app : sSet al i f e = (match f e with | .ok d => .nx ((fz al e).set i (some (d, false))) | .exc c fs => .ex c fs (fz al e) | .bad => .bad) := by unfold sSet sE; cases f e <;> rfl
@[simp] theorem sSetF_app : sSetF al i f e = (match f e with | .ok d => .nx ((fz al e).set i (some (d, true))) | .exc c fs => .ex c fs (fz al e) | .bad => .bad) := by unfold sSetF sE; cases f e <;> rfl
@[simp] theorem sAsg_app (p : Pat) : sAsg al p f e = (match f e with | .ok d => (match p.bind d (fz al e) with | .ok e' => .nx e' | _ => .bad) | .exc c fs => .ex c fs (fz al e) | .bad => .bad) := by unfold sAsg sE; cases f e <;> rfl
@[simp] theorem sPar_app (j : Nat) : sPar al i j fs e = (match fs e with | .ok ds => (match ds with | [x, y] => .nx (((fz al e).set i (some (x, false))).set j (some (y, false))) | _ => .bad) | .exc c fs => .ex c fs (fz al e) | .bad => .bad) := by unfold sPar sE; cases fs e <;> rfl
@[simp] theorem sFor_app (p : Pat) : sFor al p fs g e = (match fs e with | .ok ds => turns p g ds (fz al e) | .exc c fs => .ex c fs (fz al e) | .bad => .bad) := by unfold sFor sE; cases fs e <;> rfl
@[simp] theorem fz_cons (r : List Nat) : fz (i :: r) e = fz r (unown i e) := Eq.trans rfl rfl
@[simp] theorem unown_app : unown i e = (match e[i]? with | some (some (d, true)) => e.set i (some (d, false)) | _ => e) := Eq.trans rfl rfl
@[simp] theorem bindnm_app : Pat.bind (.nm i) d e = .ok (e.set i (some (d, false))) := Eq.trans rfl rfl
@[simp] theorem bindtp_app (ps : List Pat) : Pat.bind (.tp ps) (.tup ds) e = Pat.binds ps ds e := Eq.trans rfl rfl
@[simp] theorem binds_nil : Pat.binds [] [] e = .ok e := Eq.trans rfl rfl
@[simp] theorem binds_cons (p : Pat) (ps : List Pat) : Pat.binds (p :: ps) (d :: ds) e = (Pat.bind p d e).bind fun e' => Pat.binds ps ds e' := Eq.trans rfl rfl
@[simp] theorem asB_bl (b : Bool) : D.asB (.bl b) = .ok b := Eq.trans rfl rfl
@[simp] theorem dLt_int (i j : Int) : dLt (.int i) (.int j) = .ok (.bl (decide (i < j))) := Eq.trans rfl rfl
@[simp] theorem dLe_int (i j : Int) : dLe (.int i) (.int j) = .ok (.bl (decide (i ≤ j))) := Eq.trans rfl rfl
@[simp] theorem dGt_int (i j : Int) : dGt (.int i) (.int j) = .ok (.bl (decide (j < i))) := Eq.trans rfl rfl
@[simp] theorem dGe_int (i j : Int) : dGe (.int i) (.int j) = .ok (.bl (decide (j ≤ i))) := Eq.trans rfl rfl
@[simp] theorem dAdd_int (i j : Int) : dAdd (.int i) (.int j) = .ok (.int (i + j)) := Eq.trans rfl rfl
@[simp] theorem dSub_int (i j : Int) : dSub (.int i) (.int j) = .ok (.int (i - j)) := Eq.trans rfl rfl
@[simp] theorem dMod_int (i j : Int) : dMod (.int i) (.int j) = (if j ≠ 0 then .ok (.int (i.fmod j)) else .bad) := Eq.trans rfl rfl
@[simp] theorem dAbs_int (i : Int) : dAbs (.int i) = .ok (.int (i.natAbs : Int)) := by
  show Res.ok (D.int (if i < 0 then -i else i)) = _
  congr 2
  split <;> omega
@[simp] theorem dLen_lst : dLen (.lst ds) = .ok (.int ds.length) := Eq.trans rfl rfl
@[simp] theorem dLen_tup : dLen (.tup ds) = .ok (.int ds.length) := Eq.trans rfl rfl
@[simp] theorem dLen_con : dLen (.con ds) = .ok (.int ds.length) := Eq.trans rfl rfl
@[simp] theorem dLen_dct (t : Bool) (kvs : List (D × D)) : dLen (.dct t kvs) = .ok (.int kvs.length) := Eq.trans rfl rfl
@[simp] theorem isInt_int (i : Int) : isInt (.int i) = .ok (.bl true) := Eq.trans rfl rfl
@[simp] theorem isBool_int (i : Int) : isBool (.int i) = .ok (.bl false) := Eq.trans rfl rfl
@[simp] theorem isTup_tup : isTup (.tup ds) = .ok (.bl true) := Eq.trans rfl rfl
@[simp] theorem dTuple_lst : dTuple (.lst ds) = .ok (.tup ds) := Eq.trans rfl rfl
@[simp] theorem dTuple_tup : dTuple (.tup ds) = .ok (.tup ds) := Eq.trans rfl rfl
@[simp] theorem dList_lst : dList (.lst ds) = .ok (.lst ds) := Eq.trans rfl rfl
@[simp] theorem dList_tup : dList (.tup ds) = .ok (.lst ds) := Eq.trans rfl rfl
@[simp] theorem dMax_int (i j : Int) : dMax (.int i) (.int j) = .ok (.int (if i < j then j else i)) := Eq.trans rfl rfl
@[simp] theorem dMin_int (i j : Int) : dMin (.int i) (.int j) = .ok (.int (if j < i then j else i)) := Eq.trans rfl rfl
@[simp] theorem sMut_app (gm : List D → List D → Option (List D)) : sMut al i gm fs e = ownL i (fz al e) (fun xs => sE al fs (fun ds e' => match gm xs ds with
    | some ys => .nx (e'.set i (some (.lst ys, true)))
    | none => .bad) e) := Eq.trans rfl rfl
end
@[simp] theorem ownL_app (i : Nat) (e : DL.Env) (k : List D → Out) : ownL i e k = (match e[i]? with | some (some (.lst xs, true)) => k xs | _ => .bad) := Eq.trans rfl rfl
@[simp] theorem sE_app {α : Type} (al : List Nat) (e : DL.Env) (fa : DL.Env → Res α) (k : α → DL.Env → Out) : sE al fa k e = (match fa e with | .ok a => k a (fz al e) | .exc c fs => .ex c fs (fz al e) | .bad => .bad) := Eq.trans rfl rfl
/-! equality -/
@[simp] theorem dEq_int (i j : Int) : dEq (.int i) (.int j) = .ok (.bl (decide (i = j))) := by
  simp [dEq, D.pl, D.beq, D.py, PyData.eqv]
  exact Bool.eq_iff_iff.mpr (by simp)
@[simp] theorem dNe_int (i j : Int) : dNe (.int i) (.int j) = .ok (.bl (!decide (i = j))) := by
  simp [dNe, D.pl, D.beq, D.py, PyData.eqv]
  exact Bool.eq_iff_iff.mpr (by simp)
@[simp] theorem dAdd_lst (a b : List D) (h : a.length + b.length ≤ sizeLine) : dAdd (.lst a) (.lst b) = .ok (.lst (a ++ b)) := if_pos h
@[simp] theorem dIx_tup0 (a : D) (r : List D) : dIx (.tup (a :: r)) (.int 0) = .ok a := by simp [dIx, atI, ixN]
@[simp] theorem dIx_tup1 (a b : D) (r : List D) : dIx (.tup (a :: b :: r)) (.int 1) = .ok b := by
  have : (1 : Int) < r.length + 1 + 1 := by omega
  simp [dIx, atI, ixN, this]
theorem ixN_of {n : Nat} {i : Int} (h : -(n : Int) ≤ i) (k : i < n) : ∃ j : Nat, ixN n i = some j ∧ j < n := by
  unfold ixN
  by_cases c : 0 ≤ i
  · exact ⟨i.toNat, by rw [if_pos c, if_pos k], by omega⟩
  · exact ⟨(i + n).toNat, by rw [if_neg c, if_pos h], by omega⟩
mutual
theorem eqv_self : ∀ (d : D) (n : Nat), d.pl n = true → PyData.eqv d.py d.py = true
  | .non, _, _ => rfl
  | .bl b, _, _ => by simp [D.py, PyData.eqv]
  | .int i, _, _ => by simp [D.py, PyData.eqv]
  | .str x, _, _ => by simp [D.py, PyData.eqv]
  | .obj _, _, h => by simp [D.pl] at h
  | .err _ _, _, h => by simp [D.pl] at h
  | .exn _ _ _, _, h => by simp [D.pl] at h
  | .dct _ _, _, h => by simp [D.pl] at h
  | .con xs, 0, h => by simp [D.pl] at h
  | .con xs, n + 1, h => by
    simp [D.py, PyData.eqv]
    exact eqvs_self xs n (by simpa [D.pl] using h)
  | .tup xs, 0, h => by simp [D.pl] at h
  | .lst xs, 0, h => by simp [D.pl] at h
  | .tup xs, n + 1, h => by
    simp [D.py, PyData.eqv]
    exact eqvs_self xs n (by simpa [D.pl] using h)
  | .lst xs, n + 1, h => by
    simp [D.py, PyData.eqv]
    exact eqvs_self xs n (by simpa [D.pl] using h)
theorem eqvs_self : ∀ (ds : List D) (n : Nat), D.pls ds n = true → PyData.eqvAll (D.pys ds) (D.pys ds) = true
  | [], _, _ => rfl
  | d :: r, n, h => by
    have h' : d.pl n = true ∧ D.pls r n = true := by simpa [D.pls] using h
    simp [D.pys, PyData.eqvAll]
    exact ⟨eqv_self d n h'.1, eqvs_self r n h'.2⟩
end
theorem pls_all {n : Nat} : ∀ {ds : List D}, (∀ d ∈ ds, d.pl n = true) → D.pls ds n = true
  | [], _ => rfl
  | d :: r, h => by
    rw [D.pls, h d List.mem_cons_self, pls_all fun x hx => h x (List.mem_cons_of_mem _ hx)]
    rfl
/-! ### sizes -/
/-- an integer of at most so many bits -/
def Sm (n : Nat) (i : Int) : Prop := i.natAbs < 2 ^ n
theorem Sm.mono {n m : Nat} {i : Int} (h : Sm n i) (k : n ≤ m) : Sm m i := Nat.lt_of_lt_of_le h (Nat.pow_le_pow_right (by decide) k)
theorem Sm.bits {n : Nat} {i : Int} : Sm n i ↔ intBits i ≤ n := by
  unfold Sm intBits
  by_cases h : i = 0
  · subst h; simp; exact Nat.two_pow_pos n
  · have h' : (i == 0) = false := by simpa using h
    rw [h']
    have : i.natAbs ≠ 0 := by omega
    rw [← Nat.log2_lt this]
    exact Iff.rfl
theorem Sm.le {n : Nat} {i j : Int} (h : Sm n i) (k : j.natAbs ≤ i.natAbs) : Sm n j := Nat.lt_of_le_of_lt k h
theorem Sm.lg {n : Nat} {i : Int} (h : Sm n i) (k : n ≤ 8999) : i.natAbs.log2 < 9000 := by
  by_cases z : i.natAbs = 0
  · rw [z]; decide
  · rw [Nat.log2_lt z]
    exact Nat.lt_of_lt_of_le h (Nat.pow_le_pow_right (by decide) (by omega))
theorem Sm.two {n m : Nat} {i j : Int} (h : Sm n i) (k : Sm m j) (l : n + m ≤ big) : intBits i + intBits j ≤ big := Nat.le_trans (Nat.add_le_add (Sm.bits.mp h) (Sm.bits.mp k)) l
theorem dDiv_int {i j : Int} (h : j ≠ 0) (k : j.natAbs.log2 < 9000) : dDiv (.int i) (.int j) = .ok (.int (i.fdiv j)) := if_pos ⟨h, k⟩
@[simp] theorem dDiv_lit (i j : Int) (h : 0 < j) (k : j < 18446744073709551616) : dDiv (.int i) (.int j) = .ok (.int (i / j)) := by
  rw [dDiv_int (by omega) (Sm.lg (n := 64) (by unfold Sm; omega) (by decide)), Int.fdiv_eq_ediv_of_nonneg _ (by omega)]
@[simp high] theorem dMod_lit (i j : Int) (h : 0 < j) : dMod (.int i) (.int j) = .ok (.int (i % j)) := by
  rw [dMod_int, if_pos (by omega), Int.fmod_eq_emod_of_nonneg _ (by omega)]
theorem dPow_of {i j : Int} (h : 0 ≤ j ∧ (intBits i : Int) * j ≤ 2 ^ 27) : dPow (.int i) (.int j) = .ok (.int (i ^ j.toNat)) := if_pos h
@[simp] theorem pow_10_60 : dPow (.int 10) (.int 60) = .ok (.int (10 ^ 60)) := dPow_of (by decide +kernel)
@[simp] theorem pow_10_18 : dPow (.int 10) (.int 18) = .ok (.int (10 ^ 18)) := dPow_of (by decide +kernel)
@[simp] theorem pow_10_9 : dPow (.int 10) (.int 9) = .ok (.int (10 ^ 9)) := dPow_of (by decide +kernel)
@[simp] theorem pow_10_10 : dPow (.int 10) (.int 10) = .ok (.int (10 ^ 10)) := dPow_of (by decide +kernel)
/-! ### loops -/
@[simp] theorem isInt_bl (b : Bool) : isInt (.bl b) = .ok (.bl true) := Eq.trans rfl rfl
@[simp] theorem isInt_tup (ds : List D) : isInt (.tup ds) = .ok (.bl false) := Eq.trans rfl rfl
@[simp] theorem isInt_str (x : Str) : isInt (.str x) = .ok (.bl false) := Eq.trans rfl rfl
@[simp] theorem isInt_lst (ds : List D) : isInt (.lst ds) = .ok (.bl false) := Eq.trans rfl rfl
@[simp] theorem isInt_non  : isInt .non = .ok (.bl false) := Eq.trans rfl rfl
@[simp] theorem isBool_bl (b : Bool) : isBool (.bl b) = .ok (.bl true) := Eq.trans rfl rfl
@[simp] theorem isBool_tup (ds : List D) : isBool (.tup ds) = .ok (.bl false) := Eq.trans rfl rfl
@[simp] theorem isBool_str (x : Str) : isBool (.str x) = .ok (.bl false) := Eq.trans rfl rfl
@[simp] theorem isBool_lst (ds : List D) : isBool (.lst ds) = .ok (.bl false) := Eq.trans rfl rfl
@[simp] theorem isBool_non  : isBool .non = .ok (.bl false) := Eq.trans rfl rfl
@[simp] theorem isTup_int (i : Int) : isTup (.int i) = .ok (.bl false) := Eq.trans rfl rfl
@[simp] theorem isTup_bl (b : Bool) : isTup (.bl b) = .ok (.bl false) := Eq.trans rfl rfl
@[simp] theorem isTup_str (x : Str) : isTup (.str x) = .ok (.bl false) := Eq.trans rfl rfl
@[simp] theorem isTup_lst (ds : List D) : isTup (.lst ds) = .ok (.bl false) := Eq.trans rfl rfl
@[simp] theorem isTup_non  : isTup .non = .ok (.bl false) := Eq.trans rfl rfl
@[simp] theorem isStr_int (i : Int) : isStr (.int i) = .ok (.bl false) := Eq.trans rfl rfl
@[simp] theorem isStr_bl (b : Bool) : isStr (.bl b) = .ok (.bl false) := Eq.trans rfl rfl
@[simp] theorem isStr_tup (ds : List D) : isStr (.tup ds) = .ok (.bl false) := Eq.trans rfl rfl
@[simp] theorem isStr_str (x : Str) : isStr (.str x) = .ok (.bl true) := Eq.trans rfl rfl
@[simp] theorem isStr_lst (ds : List D) : isStr (.lst ds) = .ok (.bl false) := Eq.trans rfl rfl
@[simp] theorem isStr_non  : isStr .non = .ok (.bl false) := Eq.trans rfl rfl
@[simp] theorem isList_int (i : Int) : isList (.int i) = .ok (.bl false) := Eq.trans rfl rfl
@[simp] theorem isList_bl (b : Bool) : isList (.bl b) = .ok (.bl false) := Eq.trans rfl rfl
@[simp] theorem isList_tup (ds : List D) : isList (.tup ds) = .ok (.bl false) := Eq.trans rfl rfl
@[simp] theorem isList_str (x : Str) : isList (.str x) = .ok (.bl false) := Eq.trans rfl rfl
@[simp] theorem isList_lst (ds : List D) : isList (.lst ds) = .ok (.bl true) := Eq.trans rfl rfl
@[simp] theorem isList_non  : isList .non = .ok (.bl false) := Eq.trans rfl rfl
@[simp] theorem dIx_tup2 (a b c : D) (r : List D) : dIx (.tup (a :: b :: c :: r)) (.int 2) = .ok c := by
  have : (2 : Int) < r.length + 1 + 1 + 1 := by omega
  simp [dIx, atI, ixN, this]
@[simp] theorem dIx_tup3 (a b c d : D) (r : List D) : dIx (.tup (a :: b :: c :: d :: r)) (.int 3) = .ok d := by
  have : (3 : Int) < r.length + 1 + 1 + 1 + 1 := by omega
  simp [dIx, atI, ixN, this]
@[simp] theorem dEq_str (a b : Str) : dEq (.str a) (.str b) = .ok (.bl (decide (a = b))) := Eq.trans rfl rfl
@[simp] theorem dNe_str (a b : Str) : dNe (.str a) (.str b) = .ok (.bl (!decide (a = b))) := Eq.trans rfl rfl
@[simp] theorem dEq_bl (a b : Bool) : dEq (.bl a) (.bl b) = .ok (.bl (decide (a = b))) := by
  simp [dEq, D.pl, D.beq, D.py, PyData.eqv]
  cases a <;> cases b <;> rfl
@[simp] theorem dNe_bl (a b : Bool) : dNe (.bl a) (.bl b) = .ok (.bl (!decide (a = b))) := by
  simp [dNe, D.pl, D.beq, D.py, PyData.eqv]
  cases a <;> cases b <;> rfl
@[simp] theorem truth_bl (b : Bool) : D.truth (.bl b) = .ok b := Eq.trans rfl rfl
@[simp] theorem truth_int (i : Int) : D.truth (.int i) = .ok (decide (i ≠ 0)) := by
  show Res.ok (i != 0) = _
  congr 1
  exact Bool.eq_iff_iff.mpr (by simp)
end DL

namespace DL
open PySem PySem.Spec PyProof.Rows L2
open PySem.Builtin.Int (intBits)
/-! ### Euclid's loop over slots 0, 1, 2 -/
/-- the share a rational number is -/
def shr (x : Rat) : D := .tup [.int x.num, .int x.den]
end DL

namespace DL
open PySem PySem.Spec PyProof.Rows L2
open PySem.Builtin.Int (intBits)
/-! ### shares -/
@[simp] theorem shr_0 (x : Rat) : dIx (shr x) (.int 0) = .ok (.int x.num) := by simp [shr]
@[simp] theorem shr_1 (x : Rat) : dIx (shr x) (.int 1) = .ok (.int x.den) := by simp [shr]
/-- sizes of a share -/
def SmR (n m : Nat) (x : Rat) : Prop := Sm n x.num ∧ Sm m (x.den : Int)
theorem SmR.mono {n m n' m' : Nat} {x : Rat} (h : SmR n m x) (a : n ≤ n') (b : m ≤ m') : SmR n' m' x := ⟨h.1.mono a, h.2.mono b⟩
end DL

namespace DL
open PySem PySem.Spec PyProof.Rows L2
open PySem.Builtin.Int (intBits)
/-! ### powers of a pair by squarings -/
def pr (a b : Int) : D := .tup [.int a, .int b]
@[simp] theorem pr_0 (a b : Int) : dIx (pr a b) (.int 0) = .ok (.int a) := by simp [pr]
@[simp] theorem pr_1 (a b : Int) : dIx (pr a b) (.int 1) = .ok (.int b) := by simp [pr]
end DL

/-! spreads, plainly -/
namespace DL
open PySem PySem.Spec PyProof.Rows L2
open PySem.Builtin.Int (intBits)
@[simp] theorem dIxA_lst (xs : List D) (i : D) : dIxA (.lst xs) i = dIx (.lst xs) i := rfl
@[simp] theorem dIxA_tup (xs : List D) (i : D) : dIxA (.tup xs) i = dIx (.tup xs) i := rfl
@[simp] theorem dIxA_con (xs : List D) (i : D) : dIxA (.con xs) i = dIx (.con xs) i := rfl
@[simp] theorem dIxA_dct (t : Bool) (kvs : List (D × D)) (i : D) : dIxA (.dct t kvs) i = dAt (.dct t kvs) i := rfl
/-- answers: numbers only -/
def ans (k : List Int) : D := .tup (k.map D.int)
theorem ints_inj : ∀ {a b : List Int}, a.map D.int = b.map D.int → a = b
  | [], [], _ => rfl
  | [], _ :: _, h => by cases h
  | _ :: _, [], h => by cases h
  | x :: a, y :: b, h => by
    rw [List.map_cons, List.map_cons, List.cons.injEq] at h
    cases h.1
    rw [ints_inj h.2]
theorem ans_inj {a b : List Int} (h : ans a = ans b) : a = b := ints_inj (by unfold ans at h; injection h)
@[simp] theorem ans_key (k : List Int) : D.keyOk true (ans k) = true := by
  simp [ans, D.keyOk, D.isKey]
def getR (m : List (List Int × Rat)) (k : List Int) : Option Rat := (m.find? fun p => decide (p.1 = k)).map (·.2)
def putR (m : List (List Int × Rat)) (k : List Int) (x : Rat) : List (List Int × Rat) := if (m.any fun p => decide (p.1 = k)) = true then m.map (fun p => if p.1 = k then (p.1, x) else p) else m ++ [(k, x)]
/-- one more pair -/
def stepR (m : List (List Int × Rat)) (p : List Int × Rat) : List (List Int × Rat) := putR m p.1 ((getR m p.1).getD 0 + p.2)
def totR (ps : List (List Int × Rat)) (k : List Int) : Rat := ps.foldl (fun t p => if p.1 = k then t + p.2 else t) 0
theorem any_key {m : List (List Int × Rat)} {k : List Int} : (m.any fun p => decide (p.1 = k)) = true ↔ k ∈ m.map (·.1) := by
  rw [List.any_eq_true, List.mem_map]
  constructor
  · rintro ⟨p, h, e⟩; exact ⟨p, h, by simpa using e⟩
  · rintro ⟨p, h, e⟩; exact ⟨p, h, by simpa using e⟩
theorem put_keys (m : List (List Int × Rat)) (k : List Int) (x : Rat) : (putR m k x).map (·.1) = if k ∈ m.map (·.1) then m.map (·.1) else m.map (·.1) ++ [k] := by
  unfold putR
  by_cases h : k ∈ m.map (·.1)
  · rw [if_pos (any_key.mpr h), if_pos h, List.map_map]
    apply List.map_congr_left
    intro p _
    show (if p.1 = k then (p.1, x) else p).1 = p.1
    split <;> rfl
  · rw [if_neg (fun z => h (any_key.mp z)), if_neg h, List.map_append]; rfl
theorem get_some {m : List (List Int × Rat)} {k : List Int} : (getR m k).isSome = true ↔ k ∈ m.map (·.1) := by
  unfold getR
  rw [Option.isSome_map, List.find?_isSome, List.mem_map]
  constructor
  · rintro ⟨p, h, e⟩; exact ⟨p, h, by simpa using e⟩
  · rintro ⟨p, h, e⟩; exact ⟨p, h, by simpa using e⟩
theorem get_none {m : List (List Int × Rat)} {k : List Int} (h : k ∉ m.map (·.1)) : getR m k = none := by
  cases e : getR m k with
  | none => rfl
  | some x => exact absurd (get_some.mp (by rw [e]; rfl)) h
theorem put_get_self (m : List (List Int × Rat)) (k : List Int) (x : Rat) : getR (putR m k x) k = some x := by
  unfold putR
  split
  · rename_i h
    induction m with
    | nil => simp at h
    | cons p m ih =>
      unfold getR
      rw [List.map_cons, List.find?_cons]
      by_cases hp : p.1 = k
      · simp [hp]
      · simp only [if_neg hp, decide_eq_false hp]
        have h' : (m.any fun p => decide (p.1 = k)) = true := by simpa [hp] using h
        exact ih h'
  · rename_i h
    unfold getR
    rw [List.find?_append]
    have : m.find? (fun p => decide (p.1 = k)) = none := by
      cases e : m.find? (fun p => decide (p.1 = k)) with
      | none => rfl
      | some p =>
        exfalso
        apply h
        rw [List.any_eq_true]
        exact ⟨p, List.mem_of_find?_eq_some e, List.find?_some (p := fun p : List Int × Rat => decide (p.1 = k)) e⟩
    rw [this]
    simp
theorem put_get_ne {m : List (List Int × Rat)} {k j : List Int} (x : Rat) (h : j ≠ k) : getR (putR m k x) j = getR m j := by
  unfold putR
  split
  · induction m with
    | nil => rfl
    | cons p m ih =>
      unfold getR at *
      rw [List.map_cons, List.find?_cons, List.find?_cons]
      by_cases hp : p.1 = k
      · have hj : p.1 ≠ j := fun z => h (by rw [← z, hp])
        simp only [if_pos hp, decide_eq_false hj]
        rename_i hh
        by_cases h3 : (m.any fun p => decide (p.1 = k)) = true
        · exact ih h3
        · have : m.map (fun p => if p.1 = k then (p.1, x) else p) = m := by
            conv => rhs; rw [← List.map_id m]
            apply List.map_congr_left
            intro q hq
            rw [if_neg]
            · rfl
            · intro z
              apply h3
              rw [List.any_eq_true]
              exact ⟨q, hq, by simpa using z⟩
          rw [this]
      · simp only [if_neg hp]
        by_cases hj : p.1 = j
        · simp [hj]
        · simp only [decide_eq_false hj]
          rename_i hh
          exact ih (by simpa [hp] using hh)
  · unfold getR
    rw [List.find?_append]
    cases m.find? (fun p => decide (p.1 = j)) with
    | some p => rfl
    | none => simp [Ne.symm h]
/-- what the sums are after so many pairs -/
structure SumsOf (m ps : List (List Int × Rat)) : Prop where
  nd : (m.map (·.1)).Nodup
  ks : ∀ k, k ∈ m.map (·.1) ↔ k ∈ ps.map (·.1)
  gt : ∀ k, k ∈ ps.map (·.1) → getR m k = some (totR ps k)
  ln : m.length ≤ ps.length
theorem tot_snoc (ps : List (List Int × Rat)) (p : List Int × Rat) (k : List Int) : totR (ps ++ [p]) k = if p.1 = k then totR ps k + p.2 else totR ps k := by
  unfold totR
  rw [List.foldl_append]
  rfl
theorem tot_none {ps : List (List Int × Rat)} {k : List Int} (h : k ∉ ps.map (·.1)) : totR ps k = 0 := by
  unfold totR
  have gen : ∀ (ps : List (List Int × Rat)) (t : Rat), k ∉ ps.map (·.1) → ps.foldl (fun t p => if p.1 = k then t + p.2 else t) t = t := by
    intro ps
    induction ps with
    | nil => intro t _; rfl
    | cons p ps ih =>
      intro t h
      rw [List.map_cons, List.mem_cons] at h
      rw [List.foldl_cons, if_neg (fun z => h (.inl z.symm))]
      exact ih t fun z => h (.inr z)
  exact gen ps 0 h
theorem SumsOf.step {m ps : List (List Int × Rat)} (S : SumsOf m ps) (p : List Int × Rat) : SumsOf (stepR m p) (ps ++ [p]) := by
  have hk := put_keys m p.1 ((getR m p.1).getD 0 + p.2)
  have ht : (getR m p.1).getD 0 = totR ps p.1 := by
    by_cases h : p.1 ∈ ps.map (·.1)
    · rw [S.gt _ h]; rfl
    · rw [get_none (fun z => h ((S.ks _).mp z)), tot_none h]; rfl
  refine ⟨?_, fun k => ?_, fun k h => ?_, ?_⟩
  · unfold stepR
    rw [hk]
    split
    · exact S.nd
    · rename_i h
      rw [List.nodup_append]
      refine ⟨S.nd, by simp, ?_⟩
      intro a ha b hb
      rw [List.mem_singleton] at hb
      subst hb
      intro e
      subst e
      exact h ha
  · unfold stepR
    rw [hk, List.map_append, List.mem_append, ← S.ks k]
    split
    · rename_i h
      constructor
      · exact .inl
      · rintro (z | z)
        · exact z
        · rw [show k = p.1 by simpa using z]; exact h
    · rw [List.mem_append]; rfl
  · rw [tot_snoc]
    unfold stepR
    by_cases e : p.1 = k
    · subst e
      rw [put_get_self, ht, if_pos rfl]
    · rw [put_get_ne _ (Ne.symm e), if_neg e]
      rw [List.map_append, List.mem_append] at h
      rcases h with z | z
      · exact S.gt _ z
      · exact absurd (by simpa using z : k = p.1).symm e
  · have := congrArg List.length hk
    rw [List.length_map] at this
    unfold stepR
    rw [this, List.length_append]
    have l := S.ln
    split
    · rw [List.length_map]; simp; omega
    · rw [List.length_append, List.length_map]; simp; omega
theorem SumsOf.nil : SumsOf [] [] := ⟨List.nodup_nil, fun k => Iff.rfl, fun k h => absurd h List.not_mem_nil, Nat.le_refl _⟩
theorem SumsOf.all : ∀ (qs : List (List Int × Rat)) {m ps : List (List Int × Rat)}, SumsOf m ps → SumsOf (qs.foldl stepR m) (ps ++ qs)
  | [], m, ps, S => by rw [List.append_nil]; exact S
  | q :: qs, m, ps, S => by
    have := SumsOf.all qs (S.step q)
    rw [List.append_assoc] at this
    exact this
/-! ### order of answers -/
def lexB : List Int → List Int → Bool
  | [], [] => false
  | [], _ :: _ => true
  | _ :: _, [] => false
  | x :: r, y :: t => decide (x < y) || (!decide (y < x) && lexB r t)
theorem lt_ans : ∀ (a b : List Int), D.lt (ans a) (ans b) = lexB a b := by
  have gen : ∀ (a b : List Int), PyProof.Rows.lexLt itemOrd (PySem.W.keyToksAll (D.pys (a.map D.int))) (PySem.W.keyToksAll (D.pys (b.map D.int))) = lexB a b := by
    intro a
    induction a with
    | nil =>
      intro b
      cases b with
      | nil => simp [D.pys, PySem.W.keyToksAll, lexB]; decide
      | cons y b =>
        simp only [List.map_nil, List.map_cons, D.pys, PySem.W.keyToksAll, lexB]
        rw [PyProof.Rows.lex_cons]
        show (decide ((0 : Int) < 1) || _) = true
        simp
    | cons x a ih =>
      intro b
      cases b with
      | nil =>
        simp only [List.map_nil, List.map_cons, D.pys, PySem.W.keyToksAll, lexB]
        rw [PyProof.Rows.lex_cons]
        show (decide ((1 : Int) < 0) || (!decide ((0 : Int) < 1) && _)) = false
        simp
      | cons y b =>
        simp only [List.map_cons, D.pys, D.py, PySem.W.keyToksAll, PySem.W.keyToks, lexB, List.cons_append, List.nil_append]
        rw [PyProof.Rows.lex_cons, PyProof.Rows.lex_cons, ih b]
        show (decide ((1 : Int) < 1) || (!decide ((1 : Int) < 1) && (decide (x < y) || (!decide (y < x) && lexB a b)))) = _
        simp
  intro a b
  exact gen a b
def leB (a b : List Int) : Bool := !lexB b a
theorem le_ans (a b : List Int) : D.le (ans a) (ans b) = leB a b := by
  unfold D.le leB
  rw [lt_ans]
def sortK (ks : List (List Int)) : List (List Int) := ks.mergeSort leB
theorem sortD_ans (ks : List (List Int)) : sortD (ks.map ans) = (sortK ks).map ans := by
  unfold sortD sortK
  rw [List.map_mergeSort]
  intro a _ b _
  exact (le_ans a b).symm
theorem ints_pl (n : Nat) (k : List Int) : D.pls (k.map D.int) n = true := pls_all fun d hd => by
  obtain ⟨i, _, rfl⟩ := List.mem_map.mp hd
  rfl
theorem ans_pl (k : List Int) (n : Nat) : (ans k).pl (n + 1) = true := ints_pl n k
theorem ans_alike : ∀ (a b : List Int), PySem.W.alike (ans a).py (ans b).py = true := by
  have gen : ∀ (a b : List Int), PySem.W.alikeAll (D.pys (a.map D.int)) (D.pys (b.map D.int)) = true := by
    intro a
    induction a with
    | nil => intro b; cases b <;> simp [D.pys, PySem.W.alikeAll]
    | cons x a ih =>
      intro b
      cases b with
      | nil => simp [D.pys, PySem.W.alikeAll]
      | cons y b => simp only [List.map_cons, D.pys, D.py, PySem.W.alikeAll, PySem.W.alike, ih b]; rfl
  intro a b
  exact gen a b
theorem sortOk_ans {ks : List (List Int)} (h : ks.length ≤ sizeLine) : SortOk (ks.map ans) := by
  refine ⟨by rw [List.length_map]; exact h, ?_, ?_, .inl ?_⟩
  · intro x hx; obtain ⟨k, _, rfl⟩ := List.mem_map.mp hx; exact ans_pl k 49
  · intro x hx y hy
    obtain ⟨k, _, rfl⟩ := List.mem_map.mp hx
    obtain ⟨j, _, rfl⟩ := List.mem_map.mp hy
    exact ans_alike k j
  · intro x hx; obtain ⟨k, _, rfl⟩ := List.mem_map.mp hx; exact ⟨_, rfl⟩
/-! ### comprehensions -/
/-! ### spreads -/
def spPairD (p : List Int × Rat) : D := .tup [ans p.1, shr p.2]
/-! ### dicts, step by step -/
@[simp] theorem ownD_app (i : Nat) (e : DL.Env) (k : Bool → List (D × D) → Out) : ownD i e k = (match e[i]? with | some (some (.dct t kvs, true)) => k t kvs | _ => .bad) := Eq.trans rfl rfl
@[simp] theorem sPutD_app (al : List Nat) (i : Nat) (fk fv : DL.Env → Res D) (e : DL.Env) : sPutD al i fk fv e = ownD i (fz al e) fun t kvs => sE al (fun e => (fv e).bind fun v => (fk e).bind fun k => .ok (k, v)) (fun kv e' =>
  if D.keyOk t kv.1 = true ∧ kvs.length < sizeLine then .nx (e'.set i (some (.dct t (dSet kvs kv.1 kv.2), true))) else .bad) e := Eq.trans rfl rfl
@[simp] theorem eGet2_app (fa fb fc : DL.Env → Res D) (e : DL.Env) : eGet2 fa fb fc e = (fa e).bind fun d => match d with
  | .dct t kvs => (fb e).bind fun k => (fc e).bind fun x => dGet2 (.dct t kvs) k x
  | _ => .bad := Eq.trans rfl rfl
@[simp] theorem eDNew_app (t : Bool) (e : DL.Env) : eDNew t e = .ok (.dct t []) := Eq.trans rfl rfl
/-! ### falling shares come to one -/
@[simp] theorem sPutL_app (al : List Nat) (i : Nat) (fk fv : DL.Env → Res D) (e : DL.Env) : sPutL al i fk fv e = ownL i (fz al e) fun xs => sE al (fun e => (fv e).bind fun v => (fk e).bind fun k => .ok (k, v)) (fun kv e' => match kv.1 with
  | .int k => match ixN xs.length k with
    | some j => .nx (e'.set i (some (.lst (xs.set j kv.2), true)))
    | none => .bad
  | _ => .bad) e := Eq.trans rfl rfl
@[simp] theorem bind_sp (ps : List Pat) (p : List Int × Rat) (e : DL.Env) : Pat.bind (.tp ps) (spPairD p) e = Pat.binds ps [ans p.1, shr p.2] e := Eq.trans rfl rfl
@[simp] theorem sp_0 (p : List Int × Rat) : dIx (spPairD p) (.int 0) = .ok (ans p.1) := dIx_tup0 _ _
@[simp] theorem sp_1 (p : List Int × Rat) : dIx (spPairD p) (.int 1) = .ok (shr p.2) := dIx_tup1 _ _ _
@[simp] theorem ans_0 (a : Int) (r : List Int) : dIx (ans (a :: r)) (.int 0) = .ok (.int a) := dIx_tup0 _ _
theorem ints_of : ∀ ns : List Int, D.ints (ns.map D.int) = some ns
  | [] => rfl
  | n :: r => by show (D.ints (r.map D.int)).map _ = _; rw [ints_of r]; rfl
@[simp] theorem dSum_ints (ns : List Int) : dSum (.lst (ns.map D.int)) = .ok (.int ns.sum) := by
  show (match D.ints (ns.map D.int) with | some ns => Res.ok (D.int ns.sum) | none => .bad) = _
  rw [ints_of]
/-- places and numbers -/
def natL (ws : List Nat) : List D := ws.map fun (w : Nat) => D.int (w : Int)
theorem natL_ints (ws : List Nat) : natL ws = (ws.map fun (w : Nat) => (w : Int)).map D.int := by
  unfold natL
  rw [List.map_map]; rfl
theorem nat_sum : ∀ ws : List Nat, (ws.map fun (w : Nat) => (w : Int)).sum = ((ws.sum : Nat) : Int)
  | [] => rfl
  | w :: r => by rw [List.map_cons, List.sum_cons, List.sum_cons, nat_sum r, Int.natCast_add]
@[simp] theorem dSum_nats (ws : List Nat) : dSum (.lst (natL ws)) = .ok (.int (ws.sum : Nat)) := by
  rw [natL_ints, dSum_ints, nat_sum]
theorem iEnum_app (f : DL.Env → Res D) (e : DL.Env) : DL.iEnum f e = (f e).bind fun x => match seqOf x with
  | some xs => .ok (enumT 0 xs)
  | none => .bad := rfl
end DL

/-! dicts of any keys, plainly -/
namespace DL
open PySem PySem.Spec PyProof.Rows L2
open PySem.Builtin.Int (intBits)
section
variable {α β : Type} [DecidableEq α] {f : α → D} {g : β → D}
def getG (m : List (α × β)) (k : α) : Option β := (m.find? fun p => decide (p.1 = k)).map (·.2)
def putG (m : List (α × β)) (k : α) (x : β) : List (α × β) := if (m.any fun p => decide (p.1 = k)) = true then m.map (fun p => if p.1 = k then (p.1, x) else p) else m ++ [(k, x)]
theorem any_keyG {m : List (α × β)} {k : α} : (m.any fun p => decide (p.1 = k)) = true ↔ k ∈ m.map (·.1) := by
  rw [List.any_eq_true, List.mem_map]
  constructor
  · rintro ⟨p, h, e⟩; exact ⟨p, h, by simpa using e⟩
  · rintro ⟨p, h, e⟩; exact ⟨p, h, by simpa using e⟩
theorem put_keysG (m : List (α × β)) (k : α) (x : β) : (putG m k x).map (·.1) = if k ∈ m.map (·.1) then m.map (·.1) else m.map (·.1) ++ [k] := by
  unfold putG
  by_cases h : k ∈ m.map (·.1)
  · rw [if_pos (any_keyG.mpr h), if_pos h, List.map_map]
    apply List.map_congr_left
    intro p _
    show (if p.1 = k then (p.1, x) else p).1 = p.1
    split <;> rfl
  · rw [if_neg (fun z => h (any_keyG.mp z)), if_neg h, List.map_append]; rfl
theorem put_get_selfG (m : List (α × β)) (k : α) (x : β) : getG (putG m k x) k = some x := by
  unfold putG
  split
  · rename_i h
    induction m with
    | nil => simp at h
    | cons p m ih =>
      unfold getG
      rw [List.map_cons, List.find?_cons]
      by_cases hp : p.1 = k
      · simp [hp]
      · simp only [if_neg hp, decide_eq_false hp]
        have h' : (m.any fun p => decide (p.1 = k)) = true := by simpa [hp] using h
        exact ih h'
  · rename_i h
    unfold getG
    rw [List.find?_append]
    have : m.find? (fun p => decide (p.1 = k)) = none := by
      cases e : m.find? (fun p => decide (p.1 = k)) with
      | none => rfl
      | some p =>
        exfalso
        apply h
        rw [List.any_eq_true]
        exact ⟨p, List.mem_of_find?_eq_some e, List.find?_some (p := fun p : α × β => decide (p.1 = k)) e⟩
    rw [this]
    simp
theorem put_get_neG {m : List (α × β)} {k j : α} (x : β) (h : j ≠ k) : getG (putG m k x) j = getG m j := by
  unfold putG
  split
  · induction m with
    | nil => rfl
    | cons p m ih =>
      unfold getG at *
      rw [List.map_cons, List.find?_cons, List.find?_cons]
      by_cases hp : p.1 = k
      · have hj : p.1 ≠ j := fun z => h (by rw [← z, hp])
        simp only [if_pos hp, decide_eq_false hj]
        rename_i hh
        by_cases h3 : (m.any fun p => decide (p.1 = k)) = true
        · exact ih h3
        · have : m.map (fun p => if p.1 = k then (p.1, x) else p) = m := by
            conv => rhs; rw [← List.map_id m]
            apply List.map_congr_left
            intro q hq
            rw [if_neg]
            · rfl
            · intro z
              apply h3
              rw [List.any_eq_true]
              exact ⟨q, hq, by simpa using z⟩
          rw [this]
      · simp only [if_neg hp]
        by_cases hj : p.1 = j
        · simp [hj]
        · simp only [decide_eq_false hj]
          rename_i hh
          exact ih (by simpa [hp] using hh)
  · unfold getG
    rw [List.find?_append]
    cases m.find? (fun p => decide (p.1 = j)) with
    | some p => rfl
    | none => simp [Ne.symm h]

theorem putG_len (m : List (α × β)) (k : α) (x : β) : (putG m k x).length ≤ m.length + 1 := by
  have e := congrArg List.length (put_keysG m k x)
  rw [List.length_map] at e
  rw [e]
  split
  · rw [List.length_map]; omega
  · rw [List.length_append, List.length_map]; exact Nat.le_refl _
end
/-- so many times each -/
def bumpG {α : Type} [DecidableEq α] (m : List (α × Nat)) (k : α) : List (α × Nat) := putG m k ((getG m k).getD 0 + 1)
def timesG {α : Type} [DecidableEq α] (k : α) (l : List α) : Nat := (l.filter fun x => decide (x = k)).length
structure CountsOf {α : Type} [DecidableEq α] (m : List (α × Nat)) (l : List α) : Prop where
  nd : (m.map (·.1)).Nodup
  ks : ∀ k, k ∈ m.map (·.1) ↔ k ∈ l
  gt : ∀ k, (getG m k).getD 0 = timesG k l
  sm : ∀ k, k ∈ l → getG m k = some (timesG k l)
  ln : m.length ≤ l.length
theorem CountsOf.nil {α : Type} [DecidableEq α] : CountsOf ([] : List (α × Nat)) [] := ⟨List.nodup_nil, fun k => Iff.rfl, fun k => rfl, fun k h => absurd h List.not_mem_nil, Nat.le_refl _⟩
theorem timesG_snoc {α : Type} [DecidableEq α] (k x : α) (l : List α) : timesG k (l ++ [x]) = timesG k l + if x = k then 1 else 0 := by
  unfold timesG
  rw [List.filter_append, List.length_append]
  by_cases h : x = k
  · simp [h]
  · simp [h]
theorem CountsOf.step {α : Type} [DecidableEq α] {m : List (α × Nat)} {l : List α} (S : CountsOf m l) (x : α) : CountsOf (bumpG m x) (l ++ [x]) := by
  have hk := put_keysG m x ((getG m x).getD 0 + 1)
  have g1 : ∀ k, getG (bumpG m x) k = if x = k then some (timesG k l + 1) else getG m k := fun k => by
    unfold bumpG
    by_cases e : x = k
    · subst e
      rw [put_get_selfG, if_pos rfl, S.gt]
    · rw [put_get_neG _ (Ne.symm e), if_neg e]
  refine ⟨?_, fun k => ?_, fun k => ?_, fun k h => ?_, ?_⟩
  · unfold bumpG
    rw [hk]
    split
    · exact S.nd
    · rename_i h
      rw [List.nodup_append]
      refine ⟨S.nd, by simp, ?_⟩
      intro a ha b hb
      rw [List.mem_singleton] at hb
      subst hb
      intro e
      subst e
      exact h ha
  · unfold bumpG
    rw [hk, List.mem_append, List.mem_singleton, ← S.ks k]
    split
    · rename_i h
      exact ⟨.inl, fun z => z.elim id fun e => e ▸ h⟩
    · rw [List.mem_append, List.mem_singleton]
  · rw [g1, timesG_snoc]
    split
    · rfl
    · rw [S.gt]; rfl
  · rw [g1, timesG_snoc]
    split
    · rfl
    · rename_i e
      rw [List.mem_append, List.mem_singleton] at h
      rw [S.sm k (h.resolve_right fun z => e z.symm)]
      rfl
  · have := putG_len m x ((getG m x).getD 0 + 1)
    have l' := S.ln
    rw [List.length_append]
    show (putG m x _).length ≤ l.length + 1
    omega
/-! ### sorted numbers -/
end DL

/-! rows of numbers, plainly -/
namespace DL
open PySem PySem.Spec PyProof.Rows L2
open PySem.Builtin.Int (intBits)
theorem beq_ans (a b : List Int) : D.beq (ans a) (ans b) = decide (a = b) := by
  have gen : ∀ (a b : List Int), PyData.eqvAll (D.pys (a.map D.int)) (D.pys (b.map D.int)) = decide (a = b) := by
    intro a
    induction a with
    | nil => intro b; cases b <;> simp [D.pys, PyData.eqvAll]
    | cons x a ih =>
      intro b
      cases b with
      | nil => simp [D.pys, PyData.eqvAll]
      | cons y b =>
        simp only [List.map_cons, D.pys, D.py, PyData.eqvAll, ih b]
        show (PyData.eqv (.int x) (.int y) && decide (a = b)) = _
        have e : PyData.eqv (.int x) (.int y) = decide (x = y) := by
          simp [PyData.eqv]
          exact Bool.eq_iff_iff.mpr (by simp)
        rw [e]
        by_cases h1 : x = y <;> by_cases h2 : a = b <;> simp [h1, h2]
  show PyData.eqv (.tuple (D.pys (a.map D.int))) (.tuple (D.pys (b.map D.int))) = _
  rw [PyData.eqv]
  exact gen a b
def rowsD (L : List (List Int)) : List D := L.map ans
/-! ### how many stand in the one and not in the other -/
section
variable {α : Type} [DecidableEq α]
end
end DL

/-! rows of numbers, sorted -/
namespace DL
open PySem PySem.Spec PyProof.Rows L2
theorem sortK_perm (L : List (List Int)) : (sortK L).Perm L := List.mergeSort_perm L leB
theorem sortK_len (L : List (List Int)) : (sortK L).length = L.length := (sortK_perm L).length_eq
theorem sorted_rows {L : List (List Int)} (h : L.length ≤ sizeLine) {d : D} (hd : d.items = some (rowsD L)) : dSorted d = .ok (.lst (rowsD (sortK L))) := by
  unfold dSorted
  rw [hd]
  dsimp only
  unfold rowsD
  rw [if_pos (sortOk_ans h), sortD_ans]
end DL

/-! sorted(set(t)), t a tuple of rows of numbers with fewer than 64 unlike ones -/
namespace DL
open PySem PySem.Spec PyProof.Rows L2
section
variable {P : Program} {w : World} {A : Around} {E : Value → Shared → Prop} {s : Shared} {a : Addr} {L : List (Addr × List Int)} {es : Array (Int × Value)} {ep : Nat} {t : SetTable}
set_option maxRecDepth 100000 in
set_option maxHeartbeats 3200000 in
end
end DL

namespace DL
open PySem PySem.Spec PyProof.Rows L2
/-! ### the rule -/
def D.row : D → Option (List Int)
  | .tup xs => D.ints xs
  | _ => none
section
variable {X : Cx} {W : WX} {A : Nat → Prop} {a : Expr} {p p2 q pos : Pos}
end
end DL

/-! tuples put together, one of them plain; sorted(set(t)) of plain tuples -/
namespace DL
open PySem PySem.Spec PyProof.Rows L2
section
variable {X : Cx} {W : WX} {A : Nat → Prop}
variable {a : Expr} {p p2 q pos : Pos}
/-! sorted(x), x a plain tuple, too -/
end
end DL

/-! errors with fields: caught, looked at -/
namespace EXD
open PySem PySem.Spec PySem.Calls PyProof.Rows PySem.W
section
variable {prog : Program} {w : World} {A : Around} {E : Value → Shared → Prop} {K : Frag} {x D : Addr} {ox : Obj}
theorem foundD {C : Addr} {name : Str} {a g : Value} {od : Option Obj} (hc : (clsIn K C).isSome = true) (ha : findIn K (.ref C) name = some (some a)) (hg : specialIn K a "__get__" = some (some g)) (ht : takesIn K a = some true) : findObj K C od name = some (.bind g a) := by
  obtain ⟨cd, e⟩ := Option.isSome_iff_exists.mp hc
  unfold findObj
  rw [e, Option.bind_some, ha, Option.bind_some]
  simp [hg, ht]
theorem dict_cls {K : Frag} {D : Addr} (h : hasDictIn K D = true) : (clsIn K D).isSome = true := by
  obtain ⟨cd, e, _⟩ := any_some h
  rw [e]; rfl
/-- x.__class__, x an exception with or without a dict of its own -/
theorem askedD {Q : Option Value → Shared → Prop} {od : Option Obj} {s : Shared} (T : L2.ExcC K D) (X : K.In s.heap) (I : InstAt s.heap x ox D od) (h : Q (some (.ref D)) { s with toks := s.toks + 1 }) :
    wpAny (model prog w) A (getAttr? (.ref x) "__class__") Q E s := by
  have found := foundD (od := od) (dict_cls T.hd) T.ha T.hn T.ht
  obtain ⟨hp, g, dr, tk, os⟩ := s
  have ty := I.type (M := model prog w)
  have p1 := looks_findIn (M := model prog w) X T.hg
  have p2 := looks_findIn (M := model prog w) X T.hk
  have p3 := looks_find (M := model prog w) X I found
  have isx : Looks (model prog w) hp (isInstance (.ref x) (.type "BaseException")) true := ty.andThen (looks_subIn X T.hs)
  have e0 : (false && onTheHeap (Value.builtin "BaseException.__getattribute__")) = false := rfl
  have e1 : (onTheHeap (Value.ref D) && Value.builtin "BaseException.__getattribute__" == Value.builtin "object.__getattribute__") = false := by
    rw [show (Value.builtin "BaseException.__getattribute__" == Value.builtin "object.__getattribute__") = false from by decide +kernel]; rfl
  unfold getAttr? getAttrBy? getAttrBy
  refine wpAny_bind (wpAny_mkText (wpAny_bind (wpAny_attempt (wpAny_holding (wpAny_bind (ty.at (wpAny_bind (p1.at ?_))))))))
  show wpAny _ _ (if (onTheHeap (Value.ref D) && Value.builtin "BaseException.__getattribute__" == Value.builtin "object.__getattribute__") = true then _ else _) _ _ _
  rw [e1, if_neg Bool.false_ne_true]
  unfold getAttrByItsOwn hookBefore
  refine wpAny_bind ?_
  rw [if_pos (show onTheHeap (Value.ref D) = true from rfl)]
  refine p2.at (wpAny_bind (wpAny_attempt (wpAny_holding ?_)))
  unfold callGetattribute
  rw [e0, if_neg Bool.false_ne_true]
  unfold boundAndCalled
  rw [PySem.F.excAttr_ValueError.ga.bind (.ref x)]
  refine wpAny_bind (wpAny_pure ?_)
  show wpAny _ _ (call (.builtin "BaseException.__getattribute__") [.ref x, .str "__class__" tk]) _ _ _
  refine wpAny_call (codeAny_call_builtin PySem.F.excAttr_ValueError.ga.plain PySem.F.entry_bexc_ga ?_)
  refine @check_slot (model prog w) _ _ ⟨hp, g, dr, tk + 1, os⟩ "BaseException.__getattribute__" "BaseException" "__getattribute__" (.ref x) [.str "__class__" tk] [] _ (by decide +kernel) (by decide +kernel) isx (PySem.F.args_bexc_ga (.ref x) (.str "__class__" tk)) ?_
  unfold Builtin.«object.__getattribute__»
  refine wpAny_bind (wpAny_of_eq (a := ((Value.ref x : Value), [Value.str "__class__" tk])) (by first | rfl | (simp only [slotArgs]; rfl)) (wpAny_bind (wpAny_pure (wpAny_bind (ty.at (wpAny_bind (p3.at ?_)))))))
  show wpAny _ _ (holding [Value.builtin "object.__class__"] (call (.builtin "getset_descriptor.__get__") [.builtin "object.__class__", .ref x, .ref D]) >>= ret) _ _ _
  refine wpAny_bind (wpAny_holding (wpAny_call (class_get (s := ⟨hp, g, dr, tk + 1, os⟩) (ox := ox) (od := od) X I T.hm (wpAny_pure ?_))))
  show wpAny _ _ (handedOut (.ref D)) _ _ _
  rw [handedOut_of (v := .ref D) rfl]
  first
    | exact wpAny_pure (wpAny_pure h)
    | exact wpAny_pure h
    | exact wpAny_pure (wpAny_bind (wpAny_pure (wpAny_pure h)))
theorem kitD {od : Option Obj} (T : L2.ExcC K D) : KitX K (.ref x) (.ref D) (fun h => InstAt h x ox D od) where
  ty := fun _ _ _ I => I.type
  it := fun _ _ X _ => by
    obtain ⟨cd, e, _⟩ := any_some T.hd
    unfold clsIn at e
    split at e
    · rename_i c1 d1 k1 s1 ho
      exact fun A' Q' E' s' k q => by
        unfold isType loadHead
        exact wpAny_bind (wpAny_loadPart (k _ _ (X _ _ ho)) (wpAny_pure q))
    · cases e
  ne := fun h tp dd its n sl X htp => Bool.eq_false_iff.mpr fun q => by
    have e := Value.ref.inj (beq_iff_eq.mp q)
    subst e
    obtain ⟨cd, e, _⟩ := any_some T.hd
    unfold clsIn at e
    split at e
    · rename_i c1 d1 k1 s1 ho
      cases (X _ _ ho).symm.trans htp
    · cases e
  ca := fun X I k => askedD T X I k
end
end EXD
namespace L2
open PySem PySem.Spec PyProof.Rows
/-- the object at a, an instance of D, with its dict as it lies there -/
theorem inst_any {P : Program} {w : World} {H : Hp} {h : Heap} {a D : Addr} {oe : Obj} {d : Option Addr} (hok : HOk P w H h) (hget : h.get? a = some oe) (hz : Zc (.ref D) d oe) (hf : ∃ vs, oe.data = .fields vs)
    (hd : ∀ dd, d = some dd → ∃ ps o, H dd = some o ∧ DL.XdH ps dd o) : ∃ od, PySem.W.InstAt h a oe D od := by
  obtain ⟨vs, hv⟩ := hf
  cases d with
  | none =>
    refine ⟨none, hget, hz.1, by unfold PySem.W.notCls; rw [hv], ?_⟩
    rw [hz.2]; trivial
  | some dd =>
    obtain ⟨ps, o, e, x⟩ := hd dd rfl
    obtain ⟨mA, hns, _⟩ := x P w H h (hok dd _ e)
    obtain ⟨od, ho, _⟩ := lookIn_ns hns
    exact ⟨some od, hget, hz.1, by unfold PySem.W.notCls; rw [hv], by rw [hz.2]; exact ho⟩
theorem xdH_xd (ps : List (Str × V)) (d : Addr) : DL.XdH ps d (.xd ps) := fun P w H h x => by
  obtain ⟨mA, hns, hr⟩ := x
  exact ⟨mA, hns, hr⟩
/-- isinstance(e, c), e the suite's error -/
def rIsD (K : PySem.W.Frag) (D a : Addr) (d : Option Addr) : List V → Hp → VK → Prop := fun xs H Q => ∃ (c : V) (cv : Value) (b : Bool), xs = [.ref a, c] ∧ (∀ u, RelV c u → u = cv) ∧ PySem.W.kitOne K (.ref D) cv = some b ∧ (∀ dd, d = some dd → ∃ ps o, H dd = some o ∧ DL.XdH ps dd o) ∧ Q (.bl b) H
theorem call_isD {X : Cx} {a D : Addr} {oe : Obj} {d : Option Addr} {pn : List (Addr × Obj)} (C : ExcC X.K D) (hz : Zc (.ref D) d oe) (hf : ∃ vs, oe.data = .fields vs) : CallR (X.suite a ((a, oe) :: pn)) (.builtin "isinstance") (rIsD X.K D a d) := by
  intro pins s σ H xs us Q I r h
  obtain ⟨c, cv, b, rfl, hcv, e, hd, q⟩ := h
  obtain ⟨u1, u2, rfl, r1, r2⟩ := vals2 r
  cases (show u1 = Value.ref a from r1)
  have ec := hcv _ r2
  subst ec
  obtain ⟨hget, _⟩ := I.pin (a, oe) (List.mem_append.mpr (.inl List.mem_cons_self))
  obtain ⟨od, J⟩ := inst_any I.hok hget hz hf hd
  exact PySem.W.kia_one (EXD.kitD C) I.kIn J e (fun z => nomatch z) fun tk => ⟨.bl b, H, I.kept (t' := tk) fun _ _ z => z, rfl, q⟩
end L2
namespace DL
open PySem PySem.Spec PyProof.Rows L2
/-! ### tuples of the heap, known to all -/
def upT (H G : Hp) : Hp := fun b => match H b with
  | some (.tup vs) => some (.tup vs)
  | _ => G b
section
variable {K : PySem.W.Frag} {H G : Hp}
theorem upT_tup {b : Addr} {vs : List V} (h : H b = some (.tup vs)) : upT H G b = some (.tup vs) := by
  unfold upT; rw [h]
theorem upT_or (b : Addr) : (∃ vs, H b = some (.tup vs) ∧ upT H G b = some (.tup vs)) ∨ ((∀ vs, H b ≠ some (.tup vs)) ∧ upT H G b = G b) := by
  unfold upT
  split
  · rename_i vs e; exact .inl ⟨vs, e, rfl⟩
  · rename_i n; exact .inr ⟨fun vs e => n vs e, rfl⟩
theorem upT_gg (s : Sub G H) : Sub G (upT H G) := fun b o e => by
  rcases upT_or (H := H) (G := G) b with ⟨vs, h1, h2⟩ | ⟨_, h2⟩
  · have := s b o e
    rw [h1] at this; cases this; exact h2
  · rw [h2]; exact e
theorem upT_hh (s : Sub G H) : Sub (upT H G) H := fun b o e => by
  rcases upT_or (H := H) (G := G) b with ⟨vs, h1, h2⟩ | ⟨_, h2⟩
  · rw [h2] at e; cases e; exact h1
  · rw [h2] at e; exact s b o e
mutual
theorem Rep.upT : ∀ {d : D} {v : V}, d.tfl = true → Rep K H d v → Rep K (upT H G) d v
  | .non, _, _, e => e
  | .bl _, _, _, e => e
  | .int _, _, _, e => e
  | .str _, _, _, e => e
  | .tup ds, _, f, ⟨t, vs, e, s, r⟩ => ⟨t, vs, e, upT_tup s, RepL.upT (show D.tfls ds = true from f) r⟩
  | .obj _, _, f, _ => by cases f
  | .err _ _, _, f, _ => by cases f
  | .exn _ _ _, _, f, _ => by cases f
  | .con _, _, f, _ => by cases f
  | .lst _, _, f, _ => by cases f
  | .dct _ _, _, f, _ => by cases f
theorem RepL.upT : ∀ {ds : List D} {vs : List V}, D.tfls ds = true → RepL K H ds vs → RepL K (upT H G) ds vs
  | [], _, _, e => e
  | d :: r, _, f, ⟨v, w, e, x, y⟩ => ⟨v, w, e, Rep.upT (Bool.and_eq_true_iff.mp f).1 x, RepL.upT (Bool.and_eq_true_iff.mp f).2 y⟩
end
/-- fields that any may keep -/
def flat2 : List (D × D) → Bool
  | [] => true
  | (_, d) :: r => D.tfl d && flat2 r
theorem RepV.upT : ∀ {fs : List (D × D)} {vs : List V}, flat2 fs = true → RepV K H fs vs → RepV K (DL.upT H G) fs vs
  | [], _, _, e => e
  | (_, d) :: r, _, f, ⟨v, w, e, x, y⟩ => ⟨v, w, e, Rep.upT (Bool.and_eq_true_iff.mp f).1 x, RepV.upT (Bool.and_eq_true_iff.mp f).2 y⟩
/-- more is known to all -/
theorem StOk.grow {H0 : Bas} {G0 G2 : Hp} {σ : L2.St} {e : DL.Env} (S : StOk K H0 G0 σ e H G) (s : Sub G G2) (s2 : Sub G2 H) (n : ∀ b, G2 b ≠ none → G b = none → Fr1 H0.hp b ∧ ∀ vs ps, H b ≠ some (.lst vs) ∧ H b ≠ some (.dK ps)) (n3 : ∀ b, G2 b ≠ none → G b = none → ∀ ps, H b ≠ some (.dT ps)) : StOk K H0 G0 σ e H G2 := by
  refine ⟨⟨S.ext.hh, S.ext.gg.trans s, s2, fun b z => ?_⟩, S.len, fun i d h => let ⟨v, q1, q2⟩ := S.sh i d h; ⟨v, q1, q2.mono s⟩, fun i d h => ?_, S.ne, S.pn⟩
  · by_cases hg : G b = none
    · exact .inr (n b z hg).1
    · exact S.ext.new b hg
  · obtain ⟨a, q1, q2, q3, q4⟩ := S.ow i d h
    refine ⟨a, q1, q2, ?_, q4.mono (Sub.refl _) s⟩
    cases hg : G2 a with
    | none => rfl
    | some o =>
      have z : G2 a ≠ none := by rw [hg]; simp
      have k := n a z q3
      have k3 := n3 a z q3
      cases d with
      | lst ds => obtain ⟨vs, e, _⟩ := q4; exact absurd e (k.2 vs []).1
      | dct t kvs =>
        rcases q4 with ⟨_, ps, e, _⟩ | ⟨_, ps, e, _⟩
        · exact absurd e (k.2 [] ps).2
        · exact absurd e (k3 ps)
      | _ => exact q4.elim
/-- the heap's tuples, and an error's dict -/
theorem StOk.withX {H0 : Bas} {G0 : Hp} {σ : L2.St} {e : DL.Env} {dd : Addr} {ps : List (Str × V)} (S : StOk K H0 G0 σ e H G) (h : H dd = some (.xd ps)) (n : H0.hp dd = none) : StOk K H0 G0 σ e H (upd (upT H G) dd (.xd ps)) ∧ Sub (upT H G) (upd (upT H G) dd (.xd ps)) := by
  have g := S.ext.gh
  have s1 : Sub (upT H G) (upd (upT H G) dd (.xd ps)) := fun b o e => by
    by_cases hb : b = dd
    · subst hb
      have := upT_hh g _ _ e
      rw [h] at this; cases this; exact upd_same
    · rw [upd_ne hb]; exact e
  refine ⟨S.grow ((upT_gg g).trans s1) (fun b o e => ?_) (fun b z hg => ?_) (fun b z hg ps' e => ?_), s1⟩
  · by_cases hb : b = dd
    · subst hb; rw [upd_same] at e; cases e; exact h
    · rw [upd_ne hb] at e; exact upT_hh g _ _ e
  · by_cases hb : b = dd
    · subst hb
      exact ⟨.inl n, fun vs ps' => ⟨by rw [h]; simp, by rw [h]; simp⟩⟩
    · rw [upd_ne hb] at z
      rcases upT_or (H := H) (G := G) b with ⟨vs, h1, _⟩ | ⟨_, h2⟩
      · exact ⟨Fr1.back S.ext.hh (.inr ⟨vs, h1⟩), fun vs' ps' => ⟨by rw [h1]; simp, by rw [h1]; simp⟩⟩
      · rw [h2] at z; exact absurd hg z
  · by_cases hb : b = dd
    · subst hb; rw [h] at e; cases e
    · rw [upd_ne hb] at z
      rcases upT_or (H := H) (G := G) b with ⟨vs, h1, _⟩ | ⟨_, h2⟩
      · rw [h1] at e; cases e
      · rw [h2] at z; exact absurd hg z
end
/-! ### the suite's error, with its fields -/
def fldOf : List (D × D) → Str → Option D
  | [], _ => none
  | (.str m, d) :: r, n => if n = m then some d else fldOf r n
  | _ :: r, n => fldOf r n
theorem fld_at {K : PySem.W.Frag} {G : Hp} {n : Str} {d : D} : ∀ {fs : List (D × D)} {ps : List (Str × V)}, fs.map (·.1) = ps.map (fun p => D.str p.1) → RepV K G fs (ps.map (·.2)) → fldOf fs n = some d → ∃ v, ps.lookup n = some v ∧ Rep K G d v
  | [], _, _, _, h => by cases h
  | _ :: _, [], k, _, _ => by simp at k
  | (x, d0) :: r, (m, v0) :: ps, k, ⟨v, w, e, r1, r2⟩, h => by
    simp only [List.map_cons, List.cons.injEq] at k e
    obtain ⟨k1, k2⟩ := k
    obtain ⟨e1, e2⟩ := e
    subst k1 e1 e2
    dsimp only [fldOf] at h
    by_cases hn : n = m
    · rw [if_pos hn] at h
      cases h
      subst hn
      exact ⟨v0, by simp [List.lookup], r1⟩
    · rw [if_neg hn] at h
      obtain ⟨v, h1, h2⟩ := fld_at k2 r2 h
      refine ⟨v, ?_, h2⟩
      have hb : (n == m) = false := by simpa using hn
      simp [List.lookup, hb, h1]
/-- does the slot's value stand for the error at a, its dict d -/
def atE (a : Addr) (d : Option Addr) : D → Bool
  | .obj (.ref b) => decide (b = a) && d.isNone
  | .exn b c _ => decide (b = a) && decide (d = some c)
  | _ => false
theorem atE_rep {K : PySem.W.Frag} {G : Hp} {a : Addr} {d : Option Addr} {x : D} {v : V} (h : atE a d x = true) (r : Rep K G x v) : v = .ref a ∧ ∀ dd, d = some dd → ∃ ps o, G dd = some o ∧ XdH ps dd o := by
  unfold atE at h
  split at h
  · rename_i b
    simp only [Bool.and_eq_true, decide_eq_true_eq] at h
    obtain ⟨rfl, h2⟩ := h
    exact ⟨r, fun dd e => by rw [e] at h2; cases h2⟩
  · rename_i b c kvs
    simp only [Bool.and_eq_true, decide_eq_true_eq] at h
    obtain ⟨rfl, rfl⟩ := h
    obtain ⟨e, ps, s, _⟩ := r
    exact ⟨e, fun dd z => by cases z; exact ⟨ps, _, s, xdH_xd ps _⟩⟩
  · cases h
def eIsF (i : Nat) (a : Addr) (d : Option Addr) (o : Option Bool) : DL.Env → Res D := fun e => match e[i]? with
  | some (some (x, false)) => if atE a d x = true then (match o with | some b => .ok (.bl b) | none => .bad) else .bad
  | _ => .bad
theorem eIsF_inv {i : Nat} {a : Addr} {d : Option Addr} {o : Option Bool} {e : DL.Env} {R : Res D → Prop} (hb : ¬ R .bad) (h : R (eIsF i a d o e)) : ∃ x b, e[i]? = some (some (x, false)) ∧ atE a d x = true ∧ o = some b ∧ R (.ok (.bl b)) := by
  unfold eIsF at h
  split at h
  · rename_i x hx
    by_cases ha : atE a d x = true
    · rw [if_pos ha] at h
      cases o with
      | some b => exact ⟨x, b, hx, ha, rfl, h⟩
      | none => exact absurd h hb
    · rw [if_neg ha] at h; exact absurd h hb
  · exact absurd h hb
def eFld (i : Nat) (a : Addr) (d : Option Addr) (o : Bool) (n : Str) : DL.Env → Res D := fun e => match e[i]? with
  | some (some (.exn b c kvs, false)) => if atE a d (.exn b c kvs) = true ∧ o = true then (match fldOf kvs n with | some x => .ok x | none => .bad) else .bad
  | _ => .bad
section
variable {X : Cx} {W : WX} {A : Nat → Prop} {pos p p1 p2 p3 : Pos}
/-- which classes keep fields under this name -/
def FldTab (K : PySem.W.Frag) (mg : Str → Option Value) (n : Str) (t : String → Bool) : Prop := ∀ c cls, t c = true → mg (Str.ofString c) = some cls → ∃ C, cls = .ref C ∧ XfC K C ∧ PySem.W.findIn K (.ref C) n = some none
theorem FldTab.nil {K : PySem.W.Frag} {mg : Str → Option Value} {n : Str} : FldTab K mg n (fun _ => false) := fun c cls h _ => by cases h
theorem FldTab.cons {K : PySem.W.Frag} {mg : Str → Option Value} {n : Str} {x : String} {C : Addr} {f : String → Bool} (hm : mg (Str.ofString x) = some (.ref C)) (hx : XfC K C) (hn : PySem.W.findIn K (.ref C) n = some none) (t : FldTab K mg n f) : FldTab K mg n (fun s => if s = x then true else f s) := fun c cls h hcl => by
  dsimp only at h
  by_cases hk : c = x
  · subst hk
    rw [hm] at hcl
    cases hcl
    exact ⟨C, rfl, hx, hn⟩
  · rw [if_neg hk] at h
    exact t c cls h hcl
theorem de_fld {i : Nat} {x n : Str} {k : String} {ad : Addr} {oe : Obj} {cls : Value} {d : Option Addr} {pn : List (Addr × Obj)} {t : String → Bool} (ht : FldTab X.K X.mg n t) (hm : X.mg (Str.ofString k) = some cls) (hz : Zc cls d oe) (hf : ∃ vs, oe.data = .fields vs)
    (hN : X.N[i]? = some x) (hv : Vis X.env.scope x) (hd : (x == ("__debug__" : Str)) = false := by decide) (hcd : (x == ("__classdict__" : Str)) = false := by decide)
    (hb : attributeBase (.Name x p1) n X.env (eval (.Name x p1) X.env) = eval (.Name x p1) X.env := by rfl) :
    DE (X.suite ad ((ad, oe) :: pn)) W A (.Attribute (.Name x p1) n pos) (eFld i ad d (t k) n) := by
  by_cases htk : t k = true
  · obtain ⟨C, hC, hx, hno⟩ := ht k cls htk hm
    subst hC
    refine (pe_xf (X := X) hx hno hz hf (pe_var (X := X.suite ad ((ad, oe) :: pn)) hN hv hd hcd) hb).imp fun σ H Q ⟨e, G, E, q⟩ => ?_
    unfold eFld at q
    revert q
    split
    · rename_i b c kvs hi
      intro q
      by_cases ha : atE ad d (.exn b c kvs) = true ∧ t k = true
      · rw [if_pos ha] at q
        cases hfl : fldOf kvs n with
        | none => rw [hfl] at q; exact q.elim
        | some z =>
          rw [hfl] at q
          obtain ⟨v, h1, h2, _⟩ := E.val i _ _ hi
          have r := h2 (.inr rfl)
          have ha' := ha.1
          simp only [atE, Bool.and_eq_true, decide_eq_true_eq] at ha'
          obtain ⟨rfl, rfl⟩ := ha'
          obtain ⟨e1, ps, s, keys, rv⟩ := r
          obtain ⟨w, l, rw_⟩ := fld_at keys rv hfl
          exact ⟨v, h1, e1, rfl, c, ps, w, rfl, E.sub _ _ s, l, q.here E.sub w rw_⟩
      · rw [if_neg ha] at q; exact q.elim
    · exact fun q => q.elim
  · exact ⟨fun pins s σ H Q I ⟨e, G, E, q⟩ => by
      unfold eFld at q
      revert q
      split
      · rename_i b c kvs hi
        intro q
        rw [if_neg (fun z => htk z.2)] at q
        exact q.elim
      · exact fun q => q.elim⟩
theorem de_isF {i : Nat} {x n y : Str} {k : String} {ad : Addr} {oe : Obj} {cls cv : Value} {d : Option Addr} {v : V} {pn : List (Addr × Obj)} {t : String → Option Bool} (ht : IsTab X.K X.mg cv t) (hm : X.mg (Str.ofString k) = some cls) (hz : Zc cls d oe) (hf : ∃ vs, oe.data = .fields vs)
    (hN : X.N[i]? = some n) (hv : Vis X.env.scope n) (hg : Gl X x) (hmx : X.mg x = none) (hvx : bootBuiltins x = some (.builtin "isinstance")) (hy : PE (X.suite ad ((ad, oe) :: pn)) (.Name y p3) (tC v)) (hcv : ∀ u, RelV v u → u = cv)
    (hnx : x ≠ "__name__" := by decide) (hd : (n == ("__debug__" : Str)) = false := by decide) (hcd : (n == ("__classdict__" : Str)) = false := by decide) (hdb : (x == ("__debug__" : Str)) = false := by decide)
    (he : starEach (.Name n p2 :: [.Name y p3]) X.env = (false, eval (.Name n p2) X.env) :: starEach [.Name y p3] X.env := by rfl) (he2 : starEach (.Name y p3 :: []) X.env = (false, eval (.Name y p3) X.env) :: starEach [] X.env := by rfl) (hpl : (backTo pos (starEach [.Name y p3] X.env)).any (·.1) = false := by rfl) :
    DE (X.suite ad ((ad, oe) :: pn)) W A (.Call (.Name x p) [.Name n p2, .Name y p3] [] pos) (eIsF i ad d (t k)) := by
  cases hk : t k with
  | none => exact ⟨fun pins s σ H Q I ⟨e, G, E, q⟩ => by
      obtain ⟨_, _, _, _, z, _⟩ := eIsF_inv (R := fun r => PostG X.K X.mg _ H G r _) (fun z => z) q
      cases z⟩
  | some b =>
    obtain ⟨C, hC, hE, hK⟩ := ht k b cls hk hm
    subst hC
    refine (pe_callB (X := X.suite ad ((ad, oe) :: pn)) (call_isD hE hz hf) hg hmx hvx (pa_cons (de_vs (W := W) (A := A) (i := i) hN hv hd hcd) (pa_cons hy pa_nil he2) he) hnx hdb he hpl).imp fun σ H Q ⟨e, G, E, q⟩ => ?_
    obtain ⟨x0, b0, hi, ha, hb, q⟩ := eIsF_inv (R := fun r => PostG X.K X.mg (fun c o H' => W c o σ H') H G r (fun d H' G' => ∀ v, Rep X.K G' d v → Q v H')) (fun z => z) q
    cases hb
    refine ⟨e, G, E, ?_⟩
    unfold eVarS
    rw [hi]
    intro H' G' x1 v1 r1
    obtain ⟨e1, hx⟩ := atE_rep ha r1
    subst e1
    exact ⟨v, cv, b, rfl, hcv, hK, fun dd hdd => let ⟨ps, o, s, z⟩ := hx dd hdd; ⟨ps, o, x1.gh _ _ s, z⟩, (q.ext x1).val x1.gh rfl⟩
end
end DL

/-! errors with fields: made and raised -/
namespace L2
open PySem PySem.Spec PyProof.Rows
/-- what the written part says of the base of all errors -/
structure BasE (K : PySem.W.Frag) (B : Addr) : Prop where
  sp : PySem.W.specialIn K (.ref B) "__getattribute__" = some (some (.builtin "type.__getattribute__"))
  ty : PySem.W.typeIn K (.ref B) = some (.type "type")
  rd : PySem.W.readsIn K B (.type "type") = true
  fc : PySem.W.findCls K (.ref B) (.type "type") "__init__" = some (.val (.builtin "ValueError.__init__"))
section
variable {X : Cx} {e : Expr} {es : List Expr} {ta : TA} {p1 p2 pos : Pos} {x : Str} {B : Addr}
/-- B.__init__(self, ..) -/
theorem pe_baseini {pl : Sem Bool} (T : BasE X.K B) (hg : Gl X x) (hm : X.mg x = some (.ref B)) (ha : PA X (e :: es) ta) (hdb : (x == ("__debug__" : Str)) = false := by decide)
    (hc : eval (.Call (.Attribute (.Name x p1) "__init__" p2) (e :: es) [] pos) X.env = (do
      let ov ← eval (.Name x p1) X.env
      standAt p2.atName
      let (f, first) ← holding [ov] (getMethod ov "__init__" pl)
      callWith pos f first (backTo pos (starEach (e :: es) X.env)) (backToKw pos (keywordEach [] X.env))) := by rfl)
    (he : starEach (e :: es) X.env = (false, eval e X.env) :: starEach es X.env := by rfl) (hpl : (backTo pos (starEach es X.env)).any (·.1) = false := by rfl) :
    PE X (.Call (.Attribute (.Name x p1) "__init__" p2) (e :: es) [] pos) (tVeI X.K ta) := by
  refine ⟨fun pins s σ H Q I h => ?_⟩
  refine PySem.W.methodCall_KW (ld_glob I hg hm ?_ hdb) hc
  obtain ⟨m, fr⟩ := I.fr
  refine PySem.W.method_of_cls fr I.ok.mod.kin T.sp (PySem.W.cls_val fr I.ok.mod.kin T.ty T.rd T.fc (by decide +kernel) ?_)
  show wpAny _ _ (callWith pos (Value.builtin "ValueError.__init__") [] (backTo pos (starEach (e :: es) X.env)) []) _ _ _
  refine PyProof.Rows.callWith_method1 (thn (ha.run pos pins _ σ H _ (I.tok _) h) fun us s1 ⟨vs, H1, I1, r1, a, C, ws, ev, hl, Tx, ea, q⟩ => ?_) he hpl
  subst ev
  cases r1 with
  | @cons _ u0 _ ur ra rw' =>
    cases (show u0 = Value.ref a from ra)
    exact oinit_ok Tx I1 ea (by rw [← Paired.length rw', sizeLine_eq]; omega) fun s' J => ⟨.non, H1, J, rfl, q⟩
end
/-- what the written part says of a class of errors with fields -/
def oexB (K : PySem.W.Frag) (C : Addr) : Bool := match K.lookup C with
  | some ⟨.type "type", _, .cls cd, sl⟩ => (match cd.mro, sl.toList with
    | .ref C' :: bm, [_, _, _, _, some (.builtin n), _] => C' == C && n == "ValueError.__new__" && !cd.hasDel && cd.hasDict && PySem.HandSPX.refsVE bm
    | _, _ => false)
  | _ => false
theorem oexB_ok {K : PySem.W.Frag} {C : Addr} (h : oexB K C = true) (sa : PySem.W.findIn K (.ref C) "__setattr__" = some (some (.builtin "object.__setattr__"))) (exC : PySem.W.subIn K (.ref C) (.type "BaseException") = some true) (tyC : PySem.W.typeIn K (.ref C) = some (.type "type")) (kC : PySem.W.keepIn K (.ref C) = true) : OexC K C := by
  refine ⟨?_, sa, exC, tyC, kC⟩
  unfold oexB at h
  split at h
  · rename_i dd cd sl ho
    split at h
    · rename_i C' bm k0 k1 k2 k3 n k5 hm hs
      simp only [Bool.and_eq_true, beq_iff_eq, Bool.not_eq_true'] at h
      obtain ⟨⟨⟨⟨rfl, rfl⟩, hdel⟩, hdd⟩, ht⟩ := h
      obtain ⟨nm, bs, mro, ns, qn, hd, sn, sub, ab, col, del⟩ := cd
      dsimp only at hm hdel hdd
      subst hm hdel hdd
      have hsl : sl = #[k0, k1, k2, k3, some (.builtin "ValueError.__new__"), k5] := by
        obtain ⟨l⟩ := sl
        simp only at hs
        rw [hs]
      subst hsl
      exact ⟨nm, qn, ns, bs, bm, sn, sub, ab, col, dd, k0, k1, k2, k3, k5, ho, ht⟩
    · cases h
  · cases h
/-- __init__(self, words, ..): it keeps what stands behind the words under the names ns -/
def spI (K : PySem.W.Frag) (ns : List Str) : Sp := fun vs H Q E => vs.length = ns.length + 2 ∧ ∃ (a C : Addr) (w : Str) (ws : List V), vs = .ref a :: .str w :: ws ∧ OexC K C ∧ (∀ n ∈ ns, PySem.W.findIn K (.ref C) n = some none) ∧ H a = some (exo a C none) ∧
  ∀ d H', H d = none → d ≠ a → (∀ b, b ≠ a → b ≠ d → H' b = H b) → H' a = some (exo a C (some d)) → H' d = some (exd d (ns.zip ws).reverse) → Q .non H'
section
variable {K : PySem.W.Frag}
theorem ini_one {n1 : Str} {N : List Str} {vs : List V} {H : Hp} {Q : VK} {E : XK} (h : spI K [n1] vs H Q E) (D : Ends) (hD : ∀ σ H', Q .non H' → D.nx σ H') :
    tSeq (tDrop (tVeI K (tCons (tVar 0) (tCons (tVar 1) tNil)))) (tSeq (tOst K n1 (tVar 0) (tVar 2)) tNext) D (start N vs) H := by
  obtain ⟨hl, a, C, w, ws, rfl, T, hno, ha, q⟩ := h
  match ws, hl with
  | [y], _ =>
    refine ⟨.ref a, rfl, .str w, rfl, a, C, [.str w], rfl, by simp, T, ha, ?_⟩
    refine ⟨y, rfl, .ref a, rfl, a, C, rfl, T, hno n1 (by simp), .inl ⟨ha, fun dx n ne => ?_⟩⟩
    refine hD _ _ (q dx _ n ne (fun b b1 b2 => ?_) ?_ ?_)
    · rw [upd_ne b1, upd_ne b2]
    · exact upd_same
    · rw [upd_ne ne, upd_same]; rfl
end
end L2
namespace DL
open PySem PySem.Spec PyProof.Rows L2
/-- a class of errors with the fields ns -/
structure FldOk (P : Program) (w : World) (K : PySem.W.Frag) (mg : Str → Option Value) (base : Heap) (k : Nat) (c : String) (ns : List Str) : Prop where
  ok : ∃ (C fI : Addr) (fd : FuncData), OexC K C ∧ (∀ n ∈ ns, PySem.W.findIn K (.ref C) n = some none) ∧ PySem.W.findIn K (.ref C) "__init__" = some (some (.ref fI)) ∧ PySem.W.typeIn K (.ref fI) = some (.type "function") ∧
    mg (Str.ofString c) = some (.ref C) ∧ Binds K fd ("self" :: "words" :: ns) [] ∧ FnOk P w K mg base (L2.CX P w) k fI fd ("self" :: "words" :: ns) (spI K ns)
theorem FldOk.up {P : Program} {w : World} {K : PySem.W.Frag} {mg : Str → Option Value} {base : Heap} {j k : Nat} {c : String} {ns : List Str} (h : FldOk P w K mg base j c ns) (hjk : j ≤ k) : FldOk P w K mg base k c ns := by
  obtain ⟨C, fI, fd, a1, a2, a3, a4, a5, a6, a7⟩ := h.ok
  exact ⟨⟨C, fI, fd, a1, a2, a3, a4, a5, a6, a7.mono hjk⟩⟩
def fldsD (ns : List Str) (ds : List D) : List (D × D) := (ns.zip ds).reverse.map fun p => (D.str p.1, p.2)
theorem fldsD_cons (n : Str) (ns : List Str) (d : D) (ds : List D) : fldsD (n :: ns) (d :: ds) = fldsD ns ds ++ [(D.str n, d)] := by
  unfold fldsD
  rw [List.zip_cons_cons, List.reverse_cons, List.map_append]
  rfl
theorem fldsD_rep {K : PySem.W.Frag} {G : Hp} : ∀ {ns : List Str} {ds : List D} {ws : List V}, ds.length = ns.length → RepL K G ds ws →
    (fldsD ns ds).map (·.1) = ((ns.zip ws).reverse).map (fun p => D.str p.1) ∧ RepV K G (fldsD ns ds) (((ns.zip ws).reverse).map (·.2))
  | [], [], _, _, e => by rw [show _ = [] from e]; exact ⟨rfl, rfl⟩
  | [], _ :: _, _, h, _ => by simp at h
  | _ :: _, [], _, h, _ => by simp at h
  | n :: ns, d :: ds, _, h, ⟨v, r, e, x, y⟩ => by
    subst e
    obtain ⟨a, b⟩ := fldsD_rep (ns := ns) (by simpa using h) y
    rw [fldsD_cons, List.zip_cons_cons, List.reverse_cons, List.map_append, List.map_append, List.map_append, a]
    exact ⟨rfl, repv_app b x⟩
def sRaiseX (al : List Nat) (c : String) (ns : List Str) (fs : DL.Env → Res (List D)) : DL.Env → Out := sE al fs fun ds e => match ds with
  | .str _ :: r => if r.length = ns.length ∧ ns ≠ [] then .ex c (fldsD ns r) e else .bad
  | _ => .bad
section
variable {X : Cx} {W : WX} {H0 : Bas} {G0 : Hp} {al : List Nat} {ex : Expr} {es : List Expr} {pos p p1 : Pos}
theorem ds_raiseX {c : String} {ns : List Str} {k : Nat} {fs : DL.Env → Res (List D)} (hF : FldOk X.prog X.w X.K X.mg X.base k c ns) (hr : Room (k + 1) X.A) (hc : X.calm = true) (tk : Takes X W) (hg : Gl X (Str.ofString c)) (ha : DA X W (fun i => i ∈ al) (ex :: es) fs) (hn : ns.length ≤ 900 := by decide)
    (hdb : (Str.ofString c == ("__debug__" : Str)) = false := by decide) (he : starEach (ex :: es) X.env = (false, eval ex X.env) :: starEach es X.env := by rfl) (hpl : (backTo p1 (starEach es X.env)).any (·.1) = false := by rfl) :
    DS X W H0 G0 (.Raise (some (.Call (.Name (Str.ofString c) p) (ex :: es) [] p1)) none pos) (sRaiseX al c ns fs) := by
  obtain ⟨C, fI, fd, T, hno, iC, tI, gC, hb, F1⟩ := hF.ok
  refine (ps_raise hc tk (pmk_oex T iC tI F1 hr hb .nil (passes_call tk fun _ _ _ _ h => h.elim) hg gC ha hdb he hpl)).lk fun Z σ H hq => (sE_step hq).imp fun H ⟨e, G, E, pq⟩ => ?_
  refine ⟨e, G, E, pq.imp fun ds H1 G1 x ⟨S, q⟩ vs rs => ?_⟩
  match ds, q, rs with
  | .str u :: r, q, ⟨v, ws, ev, r1, r2⟩ =>
    subst ev
    cases (show v = .str u from r1)
    dsimp only at q
    by_cases hl : r.length = ns.length ∧ ns ≠ []
    · rw [if_pos hl] at q
      have hw : ws.length = ns.length := by rw [← hl.1]; exact r2.length
      refine ⟨by simp only [List.length_cons]; omega, fun a na => ⟨by simp only [List.length_cons, List.append_nil]; omega, a, C, u, ws, by rw [List.append_nil], T, hno, upd_same, fun d H' nd ne hk e1 e2 => ?_⟩⟩
      have hd1 : H1 d = none := by rw [upd_ne ne] at nd; exact nd
      refine ⟨rfl, d, _, e1, e2, hd1, ?_⟩
      have sb : Sub H1 (upd (del H' a) d (.xd (ns.zip ws).reverse)) := fun b o eb => by
        have nb : b ≠ a := fun z => by rw [z, na] at eb; cases eb
        have nb2 : b ≠ d := fun z => by rw [z, hd1] at eb; cases eb
        rw [upd_ne nb2, del_ne nb, hk b nb nb2, upd_ne nb]
        exact eb
      obtain ⟨k1, k2⟩ := fldsD_rep hl.1 r2
      refine q _ _ _ _ _ _ S sb ⟨gC, ?_, hd1, _, upd_same, k1, ?_⟩
      · intro z
        have := congrArg List.length k1
        rw [z] at this
        simp only [List.map_nil, List.length_nil, List.length_map, List.length_reverse, List.length_zip, hw] at this
        exact hl.2 (List.length_eq_zero_iff.mp (by omega))
      · exact RepV.mono (S.ext.gh.trans sb) k2
    · rw [if_neg hl] at q; exact q.elim
end
end DL

/-! except clauses that look at the error's fields -/
namespace DL
open PySem PySem.Spec PyProof.Rows L2
section
variable {X : Cx} {W : WX} {A : Nat → Prop} {pos p p1 p2 p3 : Pos} {H0 : Bas} {G0 : Hp}
/-- what the error's slot holds -/
def slotX (a : Addr) : Option Addr → List (D × D) → D
  | none, _ => .obj (.ref a)
  | some dd, fs => .exn a dd fs
/-- a clause: the slot of its name, what it does at each class, its suite -/
abbrev HdX := Nat × (String → Option Bool) × (Addr → Option Addr → String → DL.Env → Out)
noncomputable def hitOne (i : Nat) (f : Addr → Option Addr → String → DL.Env → Out) (c : String) (fs : List (D × D)) (e : DL.Env) : Out :=
  if fs = [] then unif fun a => clrN i (f a none c (e.set i (some (slotX a none fs, false))))
  else if flat2 fs = true then unif fun a => unif fun dd => clrN i (f a (some dd) c (e.set i (some (slotX a (some dd) fs, false)))) else .bad
noncomputable def hdlX (c : String) (fs : List (D × D)) (e : DL.Env) : List HdX → Out
  | [] => .ex c fs e
  | (i, h, f) :: r => match h c with
    | some true => hitOne i f c fs e
    | some false => hdlX c fs e r
    | none => .bad
noncomputable def sTryX (l : List HdX) (fb : DL.Env → Out) : DL.Env → Out := fun e => match fb e with
  | .ex c fs e' => hdlX c fs e' l
  | r => r
inductive HdDX (X : Cx) (H0 : Bas) (G0 : Hp) : List ExceptHandler → List HdX → Prop
  | nil : HdDX X H0 G0 [] []
  | cons {i : Nat} {x n : Str} {c : Value} {suite : List Stmt} {b₀ : Stmt} {np pos' : Pos} {h : String → Option Bool} {fs : Addr → Option Addr → String → DL.Env → Out} {hds : List ExceptHandler} {l : List HdX} (hi : X.N[i]? = some n) (hln : X.env.kindOf n = some .local) (hc : Names X x c) (hh : Clause X.K X.mg c h)
    (hsu : ∀ (a : Addr) (oe : Obj) (cls : Value) (d : Option Addr) (pn : List (Addr × Obj)) (k : String), Zc cls d oe → (∃ vs, oe.data = .fields vs) → X.mg (Str.ofString k) = some cls → DSs (X.suite a ((a, oe) :: pn)) WF H0 G0 (b₀ :: suite) (fs a d k)) (r : HdDX X H0 G0 hds l) :
    HdDX X H0 G0 (.ExceptHandler (some (.Name x np)) (some n) (b₀ :: suite) pos' :: hds) ((i, h, fs) :: l)
theorem unif_ne {g : Addr → Out} {Z : Ends} {K : PySem.W.Frag} {mg : Str → Option Value} (q : SPost K mg W H0 G0 (unif g) Z) (a : Addr) : SPost K mg W H0 G0 (g a) Z := by
  have nb : unif g ≠ .bad := fun z => by rw [z] at q; exact q
  rw [← unif_at nb a]; exact q
theorem hitOne_at {K : PySem.W.Frag} {mg : Str → Option Value} {i : Nat} {f : Addr → Option Addr → String → DL.Env → Out} {c : String} {fs : List (D × D)} {e : DL.Env} {Z : Ends} {σ : L2.St} {H1 H2 G1 : Hp} {cls : Value} {o : Option Addr} (q : SPost K mg W H0 G0 (hitOne i f c fs e) Z)
    (S : StOk K H0 G0 σ e H1 G1) (s2 : Sub H1 H2) (ix : IsExc K mg c fs cls o H1 H2) (a : Addr) :
    ∃ G2 e2, StOk K H0 G0 (σ.set i (some (.ref a))) e2 H2 G2 ∧ SPost K mg W H0 G0 (clrN i (f a o c e2)) Z := by
  have S2 : StOk K H0 G0 σ e H2 G1 := ⟨⟨S.ext.hh.trans s2, S.ext.gg, S.ext.gh.trans s2, S.ext.new⟩, S.len, S.sh, fun i d h => let ⟨a, q1, q2, q3, q4⟩ := S.ow i d h; ⟨a, q1, q2, q3, q4.mono s2 (Sub.refl _)⟩, S.ne, S.pn⟩
  unfold hitOne at q
  cases o with
  | none =>
    rw [if_pos ix.2] at q
    exact ⟨G1, _, S2.set i (d := .obj (.ref a)) (v := .ref a) rfl, unif_ne q a⟩
  | some dd =>
    obtain ⟨g, n1, n2, ps, hd, keys, rv⟩ := ix
    rw [if_neg n1] at q
    by_cases fl : flat2 fs = true
    · rw [if_pos fl] at q
      obtain ⟨S3, sb⟩ := S2.withX hd (S.ext.hh.free n2)
      exact ⟨_, _, S3.set i (d := .exn a dd fs) (v := .ref a) ⟨rfl, ps, upd_same, keys, RepV.mono sb (RepV.upT fl rv)⟩, unif_ne (unif_ne q a) dd⟩
    · rw [if_neg fl] at q; exact q.elim
theorem HdDX.as {hds : List ExceptHandler} {l : List HdX} (hd : HdDX X H0 G0 hds l) : ∃ l', HdAs X hds l' ∧ ∀ (Z : Ends) (c : String) (fs : List (D × D)) (e : DL.Env),
    SPost X.K X.mg W H0 G0 (hdlX c fs e l) Z → ∀ (cls : Value) (o : Option Addr) (σ' : L2.St) (H' G' H2 : Hp), StOk X.K H0 G0 σ' e H' G' → Sub H' H2 → IsExc X.K X.mg c fs cls o H' H2 → wAsL X.K W Z l' cls o σ' H2 := by
  induction hd with
  | nil => exact ⟨[], .nil, fun Z c fs e q cls o σ' H' G' H2 S' s2 ix => q cls o σ' H' G' H2 S' s2 ix⟩
  | @cons i x n cv suite b₀ np pos' h fs hds l hi hln hc hh hsu r ih =>
    obtain ⟨l', hl, hq⟩ := ih
    refine ⟨(cv, i, fun a cls d Z σ H => ∃ k, X.mg (Str.ofString k) = some cls ∧ tS X.K X.mg WF H0 G0 (fs a d k) Z σ H) :: l', .cons hc hi hln (fun a oe cls d pn hz hd => ⟨fun pins s σ H Z I ⟨k, hk, t⟩ => (hsu a oe cls d pn k hz hd hk).run pins s σ H Z I t⟩) hl, fun Z k fs' e' q cls o σ' H' G' H2 S' s2 ix => ?_⟩
    unfold hdlX at q
    cases hk : h k with
    | none => rw [hk] at q; exact q.elim
    | some b =>
      refine ⟨b, hh k b cls hk ix.1, fun eb a _ => ?_, fun eb => ?_⟩
      · subst eb
        rw [hk] at q
        obtain ⟨G2, e2, S3, q3⟩ := hitOne_at q S' s2 ix a
        refine ⟨k, ix.1, e2, G2, S3, ?_⟩
        cases hq' : fs a o k e2 with
        | nx e3 => rw [hq'] at q3; exact fun σ5 H5 G5 S5 => q3 _ H5 G5 (S5.clear i)
        | bk e3 => rw [hq'] at q3; exact fun σ5 H5 G5 S5 => q3 _ H5 G5 (S5.clear i)
        | ct e3 => rw [hq'] at q3; exact fun σ5 H5 G5 S5 => q3 _ H5 G5 (S5.clear i)
        | rt d => rw [hq'] at q3; exact q3
        | ro d => rw [hq'] at q3; exact q3
        | rm d e3 => rw [hq'] at q3; exact fun v σ5 H5 G5 S5 r5 => q3 v _ H5 G5 (S5.clear i) r5
        | ex c' f' e3 => rw [hq'] at q3; exact q3.elim
        | bad => rw [hq'] at q3; exact q3.elim
      · subst eb
        rw [hk] at q
        exact hq Z k fs' e' q cls o σ' H' G' H2 S' s2 ix
theorem ds_tryX {body : List Stmt} {h₀ : ExceptHandler} {hds : List ExceptHandler} {l : List HdX} {fb : DL.Env → Out} (hs : X.stack = X.env :: X.outer) (hf : X.env.frame = some X.env.locals) (hN : X.N.Nodup) (tk : Takes X W)
    (hb : ∀ (W' : WX) (pn : List (Addr × Obj)) (xe : Value → Shared → Prop), Takes (X.tr pn xe) W' → PassesOwn (model X.prog X.w) X.A X.env xe → DSs (X.tr pn xe) W' H0 G0 body fb)
    (hh : HdDX X H0 G0 (h₀ :: hds) l) : DS X W H0 G0 (.Try body (h₀ :: hds) [] [] pos) (sTryX l fb) := by
  obtain ⟨l', hl, hq⟩ := hh.as (W := W)
  refine (ps_try_asL (tb := fun W' => tS X.K X.mg W' H0 G0 fb) (Wout := W) hs hf hN tk hb hl).imp fun Z σ H ⟨e, G, S, q⟩ => ⟨e, G, S, ?_⟩
  unfold sTryX at q
  cases hr : fb e with
  | ex k fs' e' => rw [hr] at q; exact fun cls o σ' H' G' H2 S' s2 ix => hq Z k fs' e' q cls o σ' H' G' H2 S' s2 ix
  | nx e' => rw [hr] at q; exact q
  | rt d => rw [hr] at q; exact q
  | ro d => rw [hr] at q; exact q
  | rm d e' => rw [hr] at q; exact q
  | bk e' => rw [hr] at q; exact q
  | ct e' => rw [hr] at q; exact q
  | bad => rw [hr] at q; exact q.elim
end
end DL

/-! l.pop(i) as a statement; a text so many times -/
namespace L2
open PySem PySem.Spec PyProof.Rows
def timesS (x : Str) (n : Nat) : Str := ⟨(List.replicate n x.cps).foldl (· ++ ·) #[]⟩
theorem times_size (c : Array Nat) : ∀ (n : Nat) (z : Array Nat), ((List.replicate n c).foldl (· ++ ·) z).size = z.size + n * c.size
  | 0, z => by simp
  | n + 1, z => by
    rw [List.replicate_succ, List.foldl_cons, times_size c n, Array.size_append, Nat.succ_mul]
    omega
theorem timesS_len (x : Str) (n : Nat) : (timesS x n).length = n * x.length := by
  show ((List.replicate n x.cps).foldl (· ++ ·) #[]).size = n * x.cps.size
  rw [times_size]
  simp
def rTimesS : R2 := fun x y H Q => ∃ (a : Str) (k : Int), x = .str a ∧ y = .int k ∧ 2 ≤ k ∧ k ≤ 1000 ∧ 1 ≤ a.length ∧ a.length ≤ 1000 ∧ Q (.str (timesS a k.toNat)) H
theorem op_timesS {X : Cx} : OpR X (binaryOp .Mult) rTimesS := by
  intro pins s σ H x y v u Q I rx ry h
  obtain ⟨a, k, rfl, rfl, k2, kz, a1, az, q⟩ := h
  obtain ⟨t, rfl⟩ := rx
  obtain ⟨t', rfl⟩ := ry
  have c1 : ¬ k < 1 := by omega
  have c2 : (k == 1 || a.length == 0) = false := by
    rw [Bool.or_eq_false_iff]
    exact ⟨by simpa using (show k ≠ 1 by omega), by simpa using (show a.length ≠ 0 by omega)⟩
  have hm : a.length * k.toNat ≤ 1000 * 1000 := Nat.mul_le_mul az (by omega)
  refine PySem.P.mul_str ?_ (fun _ _ => ?_) (fun _ _ => ?_) ?_
  · rw [Bool.or_eq_false_iff]
    exact ⟨decide_eq_false (by omega), decide_eq_false (by omega)⟩
  · have : (1000 : Int) ≤ (2 ^ 63 - 1) / k := by
      rw [Int.le_ediv_iff_mul_le (by omega)]
      omega
    omega
  · exact decide_eq_false (by rw [PySem.sizeLine_eq]; omega)
  · rw [if_neg c1, c2, if_neg Bool.false_ne_true]
    refine ⟨?_, ⟨V.str (timesS a k.toNat), H, I.tok _, ⟨_, rfl⟩, q⟩⟩
    show (timesS a k.toNat).length ≤ sizeLine
    rw [timesS_len, PySem.sizeLine_eq, Nat.mul_comm]
    omega
end L2
namespace DL
open PySem PySem.Spec PyProof.Rows L2
section
variable {X : Cx} {W : WX}
def dMulS : D → D → Res D
  | .str a, .int k => if 2 ≤ k ∧ k ≤ 1000 ∧ 1 ≤ a.length ∧ a.length ≤ 1000 then .ok (.str (timesS a k.toNat)) else .bad
  | _, _ => .bad
theorem od_mulS : OpD X W (binaryOp .Mult) dMulS := by
  refine ⟨_, op_timesS, fun σ H G x y dx dy Q sg rx ry p => ?_⟩
  cases dx with
  | str a =>
    cases dy with
    | int k =>
      dsimp only [dMulS] at p
      by_cases h : 2 ≤ k ∧ k ≤ 1000 ∧ 1 ≤ a.length ∧ a.length ≤ 1000
      · rw [if_pos h] at p
        exact ⟨a, k, rx, ry, h.1, h.2.1, h.2.2.1, h.2.2.2, p.val sg rfl⟩
      · rw [if_neg h] at p; exact p.elim
    | _ => exact (show False from p).elim
  | _ => exact (show False from p).elim
def gPop : List D → List D → Option (List D) := fun xs ds => match ds with
  | [.int i] => if 0 ≤ i ∧ i < xs.length ∧ i < 1000000 then some (xs.eraseIdx i.toNat) else none
  | _ => none
theorem mut_pop : MutL X "list.pop" gPop := by
  refine ⟨_, mt_popAt, fun G H a xs vs ds ws xs' Q sg ha r1 r2 hg q => ?_⟩
  match ds, hg with
  | [.int i], hg =>
    dsimp only [gPop] at hg
    by_cases hc : 0 ≤ i ∧ i < xs.length ∧ i < 1000000
    · rw [if_pos hc] at hg
      cases hg
      obtain ⟨w, _, rfl, rw, e⟩ := r2
      have e : _ = [] := e
      subst e
      cases (show w = .int i from rw)
      have hl := r1.length
      have hi : i.toNat < vs.length := by omega
      refine ⟨a, vs, i, i.toNat, vs[i.toNat], rfl, rfl, ha, by omega, by omega, ?_, List.getElem?_eq_getElem hi, q _ (repl_erase r1 _)⟩
      unfold seqIndex?
      rw [if_neg (by omega : ¬ i < 0)]
      simp only []
      rw [if_pos (by simp; omega)]
    · rw [if_neg hc] at hg; cases hg
end
end DL

/-! Typed readings of the plain-data bodies: what a body does, told over Lean's own types. -/
namespace DL
open PySem PySem.Spec PyProof.Rows L2
open PySem.Builtin.Int (intBits)

/-- two lists, item by item -/
def A2 {α β : Type} (E : α → β → Prop) : List α → List β → Prop
  | [], ds => ds = []
  | a :: l, ds => ∃ d r, ds = d :: r ∧ E a d ∧ A2 E l r
section
variable {α β : Type} {E : α → β → Prop}
theorem A2.nil : A2 E [] [] := rfl
theorem A2.cons {a : α} {d : β} {l : List α} {r : List β} (h : E a d) (t : A2 E l r) : A2 E (a :: l) (d :: r) := ⟨d, r, rfl, h, t⟩
theorem A2.length : ∀ {l : List α} {r : List β}, A2 E l r → r.length = l.length
  | [], _, h => by rw [show _ = [] from h]; rfl
  | _ :: _, _, ⟨d, r, e, _, t⟩ => by rw [e, List.length_cons, List.length_cons, A2.length t]
theorem A2.append : ∀ {l l' : List α} {r r' : List β}, A2 E l r → A2 E l' r' → A2 E (l ++ l') (r ++ r')
  | [], _, _, _, h, t => by rw [show _ = [] from h]; exact t
  | _ :: _, _, _, _, ⟨d, r, e, x, y⟩, t => by rw [e]; exact ⟨d, _, rfl, x, A2.append y t⟩
theorem A2.reverse : ∀ {l : List α} {r : List β}, A2 E l r → A2 E l.reverse r.reverse
  | [], _, h => by rw [show _ = [] from h]; rfl
  | _ :: _, _, ⟨d, r, e, x, y⟩ => by rw [e, List.reverse_cons, List.reverse_cons]; exact (A2.reverse y).append ⟨d, [], rfl, x, rfl⟩
theorem A2.drop : ∀ {l : List α} {r : List β} (n : Nat), A2 E l r → A2 E (l.drop n) (r.drop n)
  | _, _, 0, h => h
  | [], _, n + 1, h => by rw [show _ = [] from h]; rfl
  | _ :: _, _, n + 1, ⟨d, r, e, x, y⟩ => by rw [e]; exact A2.drop n y
theorem A2.take : ∀ {l : List α} {r : List β} (n : Nat), A2 E l r → A2 E (l.take n) (r.take n)
  | _, _, 0, h => rfl
  | [], _, n + 1, h => by rw [show _ = [] from h]; rfl
  | _ :: _, _, n + 1, ⟨d, r, e, x, y⟩ => by rw [e]; exact ⟨d, _, rfl, x, A2.take n y⟩
theorem A2.set {a : α} {d : β} (h : E a d) : ∀ {l : List α} {r : List β} (n : Nat), A2 E l r → A2 E (l.set n a) (r.set n d)
  | [], _, n, e => by rw [show _ = [] from e]; rfl
  | _ :: _, _, 0, ⟨w, r, e, x, y⟩ => by rw [e]; exact ⟨d, r, rfl, h, y⟩
  | _ :: _, _, n + 1, ⟨w, r, e, x, y⟩ => by rw [e]; exact ⟨w, _, rfl, x, A2.set h n y⟩
theorem A2.get : ∀ {l : List α} {r : List β} {i : Nat} {a : α}, A2 E l r → l[i]? = some a → ∃ d, r[i]? = some d ∧ E a d
  | _ :: _, _, 0, _, ⟨v, r, e, x, y⟩, h => by cases h; exact ⟨v, by rw [e]; rfl, x⟩
  | _ :: _, _, i + 1, d, ⟨v, r, e, x, y⟩, h => by
    obtain ⟨w, h1, h2⟩ := A2.get (i := i) (a := d) y (by simpa using h)
    exact ⟨w, by rw [e]; simpa using h1, h2⟩
theorem A2.imp {E' : α → β → Prop} (f : ∀ a d, E a d → E' a d) : ∀ {l : List α} {r : List β}, A2 E l r → A2 E' l r
  | [], _, h => h
  | _ :: _, _, ⟨d, r, e, x, y⟩ => ⟨d, r, e, f _ _ x, A2.imp f y⟩
theorem A2.fn {f : α → β} : ∀ {l : List α} {r : List β}, A2 (fun a d => d = f a) l r ↔ r = l.map f
  | [], r => Iff.rfl
  | a :: l, r => ⟨fun ⟨d, r', e, x, y⟩ => by rw [e, x, A2.fn.mp y]; rfl, fun h => ⟨f a, l.map f, h, rfl, A2.fn.mpr rfl⟩⟩
end

/-- r tells what x is, where it tells at all -/
def Rf {α β : Type} (x : Res β) (r : Res α) (E : α → β → Prop) : Prop := match r with
  | .ok a => ∃ d, x = .ok d ∧ E a d
  | .exc c fs => x = .exc c fs
  | .bad => True
section
variable {α β γ δ : Type}
theorem Rf.bind {x : Res β} {r : Res α} {E : α → β → Prop} {f : β → Res δ} {g : α → Res γ} {E' : γ → δ → Prop} (h : Rf x r E) (k : ∀ a d, E a d → Rf (f d) (g a) E') : Rf (x.bind f) (r.bind g) E' := by
  cases r with
  | ok a => obtain ⟨d, e, h⟩ := h; rw [e]; exact k a d h
  | exc c fs => rw [show x = _ from h]; exact rfl
  | bad => trivial
theorem Rf.ok {d : β} {a : α} {E : α → β → Prop} (h : E a d) : Rf (.ok d) (.ok a) E := ⟨d, rfl, h⟩
theorem Rf.bad {x : Res β} {E : α → β → Prop} : Rf x .bad E := trivial
theorem Rf.imp {x : Res β} {r : Res α} {E E' : α → β → Prop} (h : Rf x r E) (f : ∀ a d, E a d → E' a d) : Rf x r E' := by
  cases r with
  | ok a => obtain ⟨d, e, h⟩ := h; exact ⟨d, e, f _ _ h⟩
  | exc c fs => exact h
  | bad => trivial
theorem Rf.map {x : Res β} {r : Res α} {E : α → β → Prop} {E' : γ → β → Prop} {g : α → γ} (h : Rf x r E) (f : ∀ a d, E a d → E' (g a) d) : Rf x (r.bind fun a => .ok (g a)) E' := by
  cases r with
  | ok a => obtain ⟨d, e, h⟩ := h; exact ⟨d, e, f _ _ h⟩
  | exc c fs => exact h
  | bad => trivial
theorem Rf.get {x : Res β} {r : Res α} {E : α → β → Prop} {a : α} (h : Rf x r E) (e : r = .ok a) : ∃ d, x = .ok d ∧ E a d := by subst e; exact h
/-- where the reckoning itself is told -/
theorem Rf.of {x : Res β} {r : Res α} {E : α → β → Prop} {d : β} {a : α} (e : x = .ok d) (q : r = .ok a) (h : E a d) : Rf x r E := by subst q; exact ⟨d, e, h⟩
end

/-- what is known of a name -/
abbrev Kn := D → Bool → Prop
abbrev KEnv := List (Option Kn)
def sh {α : Type} (E : α → D → Prop) (a : α) : Kn := fun d o => E a d ∧ o = false
def ow {α : Type} (E : α → D → Prop) (a : α) : Kn := fun d o => E a d ∧ o = true
/-- the names' values are as known -/
def Le : KEnv → DL.Env → Prop := A2 fun r x => ∀ P, r = some P → ∃ d o, x = some (d, o) ∧ P d o
theorem Le.get {ρ : KEnv} {e : DL.Env} (h : Le ρ e) {i : Nat} {P : Kn} (k : ρ[i]? = some (some P)) : ∃ d o, e[i]? = some (some (d, o)) ∧ P d o := by
  obtain ⟨x, h1, h2⟩ := A2.get h k
  obtain ⟨d, o, h3, h4⟩ := h2 P rfl
  exact ⟨d, o, by rw [h1, h3], h4⟩
theorem Le.set {ρ : KEnv} {e : DL.Env} (h : Le ρ e) (i : Nat) {P : Kn} {d : D} {o : Bool} (k : P d o) : Le (ρ.set i (some P)) (e.set i (some (d, o))) :=
  A2.set (fun Q hq => by cases hq; exact ⟨d, o, rfl, k⟩) i h
theorem Le.forget {ρ : KEnv} {e : DL.Env} (h : Le ρ e) (i : Nat) : Le (ρ.set i none) (e.set i none) := A2.set (fun Q hq => by cases hq) i h
/-- less is known -/
def Sb : KEnv → KEnv → Prop := A2 fun r x => r = none ∨ r = x
theorem Le.less {ρ' ρ : KEnv} {e : DL.Env} (s : Sb ρ' ρ) (h : Le ρ e) : Le ρ' e := by
  induction ρ generalizing ρ' e with
  | nil =>
    cases ρ' with
    | nil => exact h
    | cons r ρ' => obtain ⟨_, _, e, _⟩ := s; cases e
  | cons x ρ ih =>
    obtain ⟨y, e', rfl, h1, h2⟩ := h
    cases ρ' with
    | nil => cases (show _ = [] from s)
    | cons r ρ' =>
      obtain ⟨_, _, e, s1, s2⟩ := s
      cases e
      refine ⟨y, e', rfl, fun P hP => ?_, ih s2 h2⟩
      rcases s1 with z | z
      · rw [z] at hP; cases hP
      · exact h1 P (z ▸ hP)
theorem Sb.nil : Sb [] [] := rfl
theorem Sb.same {r : Option Kn} {a b : KEnv} (s : Sb a b) : Sb (r :: a) (r :: b) := ⟨_, _, rfl, .inr rfl, s⟩
theorem Sb.drop {r : Option Kn} {a b : KEnv} (s : Sb a b) : Sb (none :: a) (r :: b) := ⟨_, _, rfl, .inl rfl, s⟩
theorem Sb.refl : ∀ a : KEnv, Sb a a
  | [] => rfl
  | _ :: a => .same (Sb.refl a)
/-- a list is handed on: what was owned is owned no more -/
def frK (P : Kn) : Kn := fun d o => o = false ∧ ∃ o', P d o'
def fzK : List Nat → KEnv → KEnv
  | [], ρ => ρ
  | i :: r, ρ => fzK r (match ρ[i]? with
    | some (some P) => ρ.set i (some (frK P))
    | _ => ρ)
theorem Le.unown {ρ : KEnv} {e : DL.Env} (h : Le ρ e) (i : Nat) : Le (match ρ[i]? with | some (some P) => ρ.set i (some (frK P)) | _ => ρ) (unown i e) := by
  cases hp : ρ[i]? with
  | none =>
    have : e[i]? = none := by
      rw [List.getElem?_eq_none_iff] at hp ⊢
      rw [A2.length h]; exact hp
    unfold DL.unown
    rw [this]
    exact h
  | some r =>
    cases r with
    | none =>
      have self : ρ.set i none = ρ := by
        apply List.ext_getElem?
        intro j
        rw [List.getElem?_set]
        by_cases hj : i = j
        · subst hj
          obtain ⟨w, hw⟩ := List.getElem?_eq_some_iff.mp hp
          simp [w, hw]
        · simp [hj]
      unfold DL.unown
      cases he : e[i]? with
      | none => exact h
      | some s =>
        cases s with
        | none => exact h
        | some z =>
          obtain ⟨d, o⟩ := z
          cases o with
          | false => exact h
          | true =>
            show Le ρ (e.set i (some (d, false)))
            rw [← self]
            exact A2.set (fun P hP => by cases hP) i h
    | some P =>
      obtain ⟨d, o, he, hP⟩ := h.get hp
      unfold DL.unown
      rw [he]
      cases o with
      | true => exact Le.set h i ⟨rfl, _, hP⟩
      | false =>
        dsimp only
        have : e.set i (some (d, false)) = e := by
          apply List.ext_getElem?
          intro j
          rw [List.getElem?_set]
          by_cases hj : i = j
          · subst hj
            rw [he]
            have := (List.getElem?_eq_some_iff.mp he).1
            simp [this]
          · simp [hj]
        rw [← this]
        exact Le.set h i ⟨rfl, _, hP⟩
theorem Le.fz : ∀ (al : List Nat) {ρ : KEnv} {e : DL.Env}, Le ρ e → Le (fzK al ρ) (fz al e)
  | [], _, _, h => h
  | i :: r, _, _, h => Le.fz r (h.unown i)
def wipeK (ρ : KEnv) : List Nat → KEnv
  | [] => ρ
  | v :: vs => (wipeK ρ vs).set v none
theorem Le.wipe {ρ : KEnv} {e : DL.Env} (h : Le ρ e) : ∀ vs : List Nat, Le (wipeK ρ vs) (wipeE e vs)
  | [] => h
  | v :: vs => (Le.wipe h vs).forget v

/-! ### expressions -/
def EvR {α β : Type} (ρ : KEnv) (f : DL.Env → Res β) (r : Res α) (E : α → β → Prop) : Prop := ∀ e, Le ρ e → Rf (f e) r E
abbrev RE (α : Type) := α → D → Prop
def eI : RE Int := fun i d => d = .int i
def eB : RE Bool := fun b d => d = .bl b
def eS : RE Str := fun x d => d = .str x
def eN : RE Unit := fun _ d => d = .non
def eD : RE D := fun a d => d = a
def eL {α : Type} (E : RE α) : RE (List α) := fun l d => ∃ ds, d = .lst ds ∧ A2 E l ds
def eT {α : Type} (E : RE α) : RE (List α) := fun l d => ∃ ds, d = .tup ds ∧ A2 E l ds
/-- rows of numbers -/
def eR : RE (List Int) := fun k d => d = ans k
/-- tuples of known form: the items' list -/
def qN : Unit → List D → Prop := fun _ ds => ds = []
def q1 {α : Type} (E : RE α) : α → List D → Prop := fun a ds => ∃ d, ds = [d] ∧ E a d
def qC {α β : Type} (E : RE α) (Q : β → List D → Prop) : α × β → List D → Prop := fun p ds => ∃ d r, ds = d :: r ∧ E p.1 d ∧ Q p.2 r
/-- truths and lists, as they are -/
def Tr : Bool → Bool → Prop := fun a b => b = a
/-- nothing or something -/
def eO {α : Type} (E : RE α) : RE (Option α) := fun o d => match o with
  | none => d = .non
  | some a => E a d
section
variable {α β γ δ : Type} {ρ : KEnv}
theorem v_s {i : Nat} {E : RE α} {a : α} (h : ρ[i]? = some (some (sh E a))) : EvR ρ (eVarS i) (.ok a) E := fun e l => by
  obtain ⟨d, o, h1, h2, h3⟩ := l.get h
  subst h3
  exact ⟨d, by unfold eVarS; rw [h1], h2⟩
theorem v_o {i : Nat} {E : RE α} {a : α} (h : ρ[i]? = some (some (ow E a))) : EvR ρ (eVar i) (.ok a) E := fun e l => by
  obtain ⟨d, o, h1, h2, h3⟩ := l.get h
  exact ⟨d, by unfold eVar; rw [h1], h2⟩
theorem v_c {d : D} {E : RE α} {a : α} (h : E a d) : EvR ρ (eC d) (.ok a) E := fun e l => ⟨d, rfl, h⟩
theorem v_op {fa fb : DL.Env → Res D} {g : D → D → Res D} {Ea : RE α} {Eb : RE β} {Ec : RE γ} {ra : Res α} {rb : Res β} {gt : α → β → Res γ} (hg : ∀ a b x y, Ea a x → Eb b y → Rf (g x y) (gt a b) Ec) (ha : EvR ρ fa ra Ea) (hb : EvR ρ fb rb Eb) :
    EvR ρ (eOp g fa fb) (ra.bind fun a => rb.bind fun b => gt a b) Ec := fun e l => (ha e l).bind fun a x h1 => (hb e l).bind fun b y h2 => hg a b x y h1 h2
theorem v_opp {fa fb : DL.Env → Res D} {g : D → D → Res D} {Ea : RE α} {Eb : RE β} {Ec : RE γ} {a : α} {b : β} {r : Res γ} (hg : ∀ x y, Ea a x → Eb b y → Rf (g x y) r Ec) (ha : EvR ρ fa (.ok a) Ea) (hb : EvR ρ fb (.ok b) Eb) :
    EvR ρ (eOp g fa fb) r Ec := fun e l => by
  obtain ⟨x, e1, h1⟩ := ha e l
  obtain ⟨y, e2, h2⟩ := hb e l
  unfold eOp
  rw [e1, e2]
  exact hg x y h1 h2
theorem v_1 {fa : DL.Env → Res D} {g : D → Res D} {Ea : RE α} {Ec : RE γ} {ra : Res α} {gt : α → Res γ} (hg : ∀ a x, Ea a x → Rf (g x) (gt a) Ec) (ha : EvR ρ fa ra Ea) : EvR ρ (e1 g fa) (ra.bind gt) Ec := fun e l => (ha e l).bind hg
theorem v_1p {fa : DL.Env → Res D} {g : D → Res D} {Ea : RE α} {Ec : RE γ} {a : α} {r : Res γ} (hg : ∀ x, Ea a x → Rf (g x) r Ec) (ha : EvR ρ fa (.ok a) Ea) : EvR ρ (e1 g fa) r Ec := fun e l => by
  obtain ⟨x, e1, h1⟩ := ha e l
  unfold DL.e1
  rw [e1]
  exact hg x h1
theorem v_imp {fa : DL.Env → Res β} {E E' : α → β → Prop} {r : Res α} (h : EvR ρ fa r E) (f : ∀ a d, E a d → E' a d) : EvR ρ fa r E' := fun e l => (h e l).imp f
theorem v_cast {fa : DL.Env → Res β} {E : α → β → Prop} {E' : γ → β → Prop} {a : α} {c : γ} (h : EvR ρ fa (.ok a) E) (f : ∀ d, E a d → E' c d) : EvR ρ fa (.ok c) E' := fun e l => by
  obtain ⟨x, e1, h1⟩ := h e l
  exact ⟨x, e1, f x h1⟩
/-- typed anew, where it can be -/
theorem v_as {fa : DL.Env → Res β} {E : α → β → Prop} {E' : γ → β → Prop} {r : Res α} {g : α → Res γ} (h : EvR ρ fa r E) (f : ∀ a d c, E a d → g a = .ok c → E' c d) (n : ∀ a c fs, g a ≠ .exc c fs) : EvR ρ fa (r.bind g) E' := fun e l => by
  have := h e l
  cases r with
  | ok a =>
    obtain ⟨d, e1, h1⟩ := this
    show Rf (fa e) (g a) E'
    cases q : g a with
    | ok c => exact ⟨d, e1, f a d c h1 q⟩
    | exc c fs => exact absurd q (n _ _ _)
    | bad => trivial
  | exc c fs => exact this
  | bad => trivial
theorem vq_1 {f : DL.Env → Res D} {r : Res α} {E : RE α} (h : EvR ρ f r E) : EvR ρ (aCons f aNil) r (q1 E) := fun e l => by
  have := h e l
  unfold aCons aNil
  cases r with
  | ok a => obtain ⟨d, e1, h1⟩ := this; rw [e1]; exact ⟨[d], rfl, d, rfl, h1⟩
  | exc c fs => rw [show f e = _ from this]; rfl
  | bad => trivial
theorem vq_c {f : DL.Env → Res D} {fs : DL.Env → Res (List D)} {r : Res α} {rs : Res β} {E : RE α} {Q : β → List D → Prop} (h : EvR ρ f r E) (t : EvR ρ fs rs Q) : EvR ρ (aCons f fs) (r.bind fun a => rs.bind fun b => .ok (a, b)) (qC E Q) := fun e l =>
  (h e l).bind fun a d h1 => (t e l).bind fun b ds h2 => .ok ⟨d, ds, rfl, h1, h2⟩
theorem vq_cp {f : DL.Env → Res D} {fs : DL.Env → Res (List D)} {a : α} {b : β} {E : RE α} {Q : β → List D → Prop} (h : EvR ρ f (.ok a) E) (t : EvR ρ fs (.ok b) Q) : EvR ρ (aCons f fs) (.ok (a, b)) (qC E Q) := vq_c h t
/-- as many items as one likes, all of a kind -/
theorem vl_nil {E : RE α} : EvR ρ aNil (.ok []) (A2 E) := fun e l => ⟨[], rfl, rfl⟩
theorem vl_c {f : DL.Env → Res D} {fs : DL.Env → Res (List D)} {r : Res α} {rs : Res (List α)} {E : RE α} (h : EvR ρ f r E) (t : EvR ρ fs rs (A2 E)) : EvR ρ (aCons f fs) (r.bind fun a => rs.bind fun b => .ok (a :: b)) (A2 E) := fun e l =>
  (h e l).bind fun a d h1 => (t e l).bind fun b ds h2 => .ok ⟨d, ds, rfl, h1, h2⟩
theorem vl_cp {f : DL.Env → Res D} {fs : DL.Env → Res (List D)} {a : α} {b : List α} {E : RE α} (h : EvR ρ f (.ok a) E) (t : EvR ρ fs (.ok b) (A2 E)) : EvR ρ (aCons f fs) (.ok (a :: b)) (A2 E) := vl_c h t
theorem v_lst {fs : DL.Env → Res (List D)} {r : Res (List α)} {E : RE α} (h : EvR ρ fs r (A2 E)) : EvR ρ (eLst fs) r (eL E) := fun e l => by
  have := h e l
  unfold eLst
  cases r with
  | ok a => obtain ⟨d, e1, h1⟩ := this; rw [e1]; exact ⟨_, rfl, d, rfl, h1⟩
  | exc c fs' => rw [show fs e = _ from this]; rfl
  | bad => trivial
/-- a call: what the def does on data of these readings -/
def CallR (F : List D → Res D) (Q : α → List D → Prop) (t : α → Res β) (E : RE β) : Prop := ∀ a ds, Q a ds → Rf (F ds) (t a) E
theorem v_call {F : List D → Res D} {fs : DL.Env → Res (List D)} {Q : α → List D → Prop} {t : α → Res β} {E : RE β} {r : Res α} (c : CallR F Q t E) (h : EvR ρ fs r Q) : EvR ρ (eCall F fs) (r.bind t) E := fun e l => (h e l).bind c
theorem v_callp {F : List D → Res D} {fs : DL.Env → Res (List D)} {Q : α → List D → Prop} {t : α → Res β} {E : RE β} {a : α} (c : CallR F Q t E) (h : EvR ρ fs (.ok a) Q) : EvR ρ (eCall F fs) (t a) E := fun e l => by
  obtain ⟨d, e1, h1⟩ := h e l
  unfold eCall
  rw [e1]
  exact c a d h1
/-! tests -/
theorem b_test {fa fb : DL.Env → Res D} {g : D → D → Res D} {r : Res Bool} (h : EvR ρ (eOp g fa fb) r eB) : EvR ρ (bTest g fa fb) r Tr := fun e l => by
  have := h e l
  unfold eOp at this
  unfold bTest
  have q : ∀ (x y : D), ((g x y).bind D.asB) = (g x y).bind D.asB := fun _ _ => rfl
  have ass : (fa e).bind (fun x => (fb e).bind fun y => (g x y).bind D.asB) = ((fa e).bind fun x => (fb e).bind fun y => g x y).bind D.asB := by
    cases fa e with
    | ok x => cases fb e <;> rfl
    | exc c fs => rfl
    | bad => rfl
  rw [ass]
  have z := this.bind (f := D.asB) (g := fun b => Res.ok b) (E' := Tr) fun b d hd => by rw [show d = _ from hd]; exact ⟨b, rfl, rfl⟩
  cases r <;> exact z
theorem b_truB {f : DL.Env → Res D} {r : Res Bool} (h : EvR ρ f r eB) : EvR ρ (bTruth f) r Tr := fun e l => by
  have := (h e l).bind (f := D.truth) (g := fun b => Res.ok b) (E' := Tr) fun b d hd => by rw [show d = _ from hd]; exact ⟨b, rfl, rfl⟩
  cases r <;> exact this
theorem b_and {fa fb : DL.Env → Res Bool} {ra rb : Res Bool} (ha : EvR ρ fa ra Tr) (hb : EvR ρ fb rb Tr) : EvR ρ (bAnd fa fb) (ra.bind fun b => if b = true then rb else .ok false) Tr := fun e l =>
  (ha e l).bind fun a b h => by
    rw [show b = a from h]
    cases a
    · exact ⟨false, rfl, rfl⟩
    · exact hb e l
theorem b_or {fa fb : DL.Env → Res Bool} {ra rb : Res Bool} (ha : EvR ρ fa ra Tr) (hb : EvR ρ fb rb Tr) : EvR ρ (bOr fa fb) (ra.bind fun b => if b = true then .ok true else rb) Tr := fun e l =>
  (ha e l).bind fun a b h => by
    rw [show b = a from h]
    cases a
    · exact hb e l
    · exact ⟨true, rfl, rfl⟩
theorem b_not {fa : DL.Env → Res Bool} {ra : Res Bool} (ha : EvR ρ fa ra Tr) : EvR ρ (bNot fa) (ra.bind fun b => .ok (!b)) Tr := fun e l =>
  (ha e l).bind fun a b h => by rw [show b = a from h]; exact ⟨_, rfl, rfl⟩
theorem b_orP {fa fb : DL.Env → Res Bool} {P Q : Prop} [Decidable P] [Decidable Q] (ha : EvR ρ fa (.ok (decide P)) Tr) (hb : EvR ρ fb (.ok (decide Q)) Tr) : EvR ρ (bOr fa fb) (.ok (decide (P ∨ Q))) Tr := fun e l => by
  have := b_or ha hb e l
  rw [show (Res.ok (decide P)).bind (fun b => if b = true then .ok true else Res.ok (decide Q)) = .ok (decide (P ∨ Q)) by by_cases h : P <;> simp [h]] at this
  exact this
/-! values of and, or, not -/
theorem v_and {fa fb : DL.Env → Res D} {ra rb : Res Bool} (ha : EvR ρ fa ra eB) (hb : EvR ρ fb rb eB) : EvR ρ (eAnd fa fb) (ra.bind fun b => if b = true then rb else .ok false) eB := fun e l =>
  (ha e l).bind fun a b h => by
    rw [show b = _ from h]
    cases a
    · exact ⟨_, rfl, rfl⟩
    · exact hb e l
theorem v_P {fa : DL.Env → Res D} {b : Bool} (ha : EvR ρ fa (.ok b) eB) : EvR ρ fa (.ok (decide (b = true))) eB := by
  cases b <;> exact ha
end
end DL

/-! Typed readings: statements, loops, defs. -/
namespace DL
open PySem PySem.Spec PyProof.Rows L2
open PySem.Builtin.Int (intBits)

/-- how a turn of a loop ends -/
inductive Oc (S R : Type) where
  | nx (s : S)
  | bk (s : S)
  | rt (v : R)

/-- what a block does, told by r; P: what an end means -/
def JM {T : Type} (r : Res T) (P : T → Out → Prop) (o : Out) : Prop := match r with
  | .ok t => P t o
  | .exc c fs => ∃ e', o = .ex c fs e'
  | .bad => True
def J {T : Type} (ρ : KEnv) (b : DL.Env → Out) (r : Res T) (P : T → Out → Prop) : Prop := ∀ e, Le ρ e → JM r P (b e)
/-- a def's end -/
def PT {R : Type} (E : RE R) : R → Out → Prop := fun v o => ∃ d, E v d ∧ (o = .rt d ∨ o = .ro d ∨ ((∃ e, o = .nx e) ∧ d = .non))
/-- on to the next -/
def PN {S : Type} (ρ : S → KEnv) : S → Out → Prop := fun s o => ∃ e, o = .nx e ∧ Le (ρ s) e
/-- a turn's end -/
def PB {S : Type} (ρ : S → KEnv) : S → Out → Prop := fun s o => ∃ e, (o = .nx e ∨ o = .ct e) ∧ Le (ρ s) e
def PL {S R : Type} (ρ : S → KEnv) (E : RE R) : Oc S R → Out → Prop := fun t o => match t with
  | .nx s => ∃ e, (o = .nx e ∨ o = .ct e) ∧ Le (ρ s) e
  | .bk s => ∃ e, o = .bk e ∧ Le (ρ s) e
  | .rt v => ∃ d, E v d ∧ (o = .rt d ∨ o = .ro d)
/-- a loop's end -/
def PX {S R : Type} (ρ : S → KEnv) (E : RE R) : Oc S R → Out → Prop := fun t o => match t with
  | .nx s => ∃ e, o = .nx e ∧ Le (ρ s) e
  | .bk _ => False
  | .rt v => ∃ d, E v d ∧ (o = .rt d ∨ o = .ro d)
/-- a step that always goes on -/
def Go (ρ : KEnv) (b : DL.Env → Out) (ρ' : KEnv) : Prop := ∀ e, Le ρ e → ∃ e', b e = .nx e' ∧ Le ρ' e'
section
variable {T S R α β : Type} {ρ ρ' : KEnv} {a b c : DL.Env → Out} {r : Res T} {P : T → Out → Prop}
theorem j_go (h : Go ρ a ρ') (k : J ρ' b r P) : J ρ (sSeq a b) r P := fun e l => by
  obtain ⟨e', h1, h2⟩ := h e l
  have : sSeq a b e = b e' := by unfold sSeq; rw [h1]
  rw [this]
  exact k e' h2
theorem j_do {s : Res S} {ρs : S → KEnv} {k : S → Res T} (h : J ρ a s (PN ρs)) (q : ∀ x, J (ρs x) b (k x) P) : J ρ (sSeq a b) (s.bind k) P := fun e l => by
  have := h e l
  cases s with
  | ok x =>
    obtain ⟨e', h1, h2⟩ := this
    have : sSeq a b e = b e' := by unfold sSeq; rw [h1]
    rw [this]
    exact q x e' h2
  | exc cc fs => obtain ⟨e', h1⟩ := this; exact ⟨e', by unfold sSeq; rw [h1]⟩
  | bad => trivial
theorem j_assoc (h : J ρ (sSeq a (sSeq b c)) r P) : J ρ (sSeq (sSeq a b) c) r P := fun e l => by
  have : sSeq (sSeq a b) c e = sSeq a (sSeq b c) e := by unfold sSeq; cases a e <;> rfl
  rw [this]
  exact h e l
theorem j_skip (h : J ρ b r P) : J ρ (sSeq sSkip b) r P := fun e l => h e l
theorem j_if {al : List Nat} {ft : DL.Env → Res Bool} {rt : Res Bool} {ra rb : Res T} (hc : EvR ρ ft rt Tr) (ha : J (fzK al ρ) a ra P) (hb : J (fzK al ρ) b rb P) : J ρ (sIf al ft a b) (rt.bind fun z => if z = true then ra else rb) P := fun e l => by
  have := hc e l
  have f := l.fz al
  cases rt with
  | ok z =>
    obtain ⟨y, h1, h2⟩ := this
    have q : sIf al ft a b e = if y = true then a (fz al e) else b (fz al e) := by rw [sIf_app, h1]
    rw [q, show y = z from h2]
    cases z
    · exact hb _ f
    · exact ha _ f
  | exc cc fs => exact ⟨_, by rw [sIf_app, show ft e = _ from this]⟩
  | bad => trivial
theorem j_ifP {al : List Nat} {ft : DL.Env → Res Bool} {p : Prop} [Decidable p] {ra rb : Res T} (hc : EvR ρ ft (.ok (decide p)) Tr) (ha : J (fzK al ρ) a ra P) (hb : J (fzK al ρ) b rb P) : J ρ (sIf al ft a b) (if p then ra else rb) P := by
  have := j_if hc ha hb
  by_cases h : p
  · rw [if_pos h]; simpa [h] using this
  · rw [if_neg h]; simpa [h] using this
theorem seq_if (al : List Nat) (ft : DL.Env → Res Bool) : sSeq (sIf al ft a b) c = sIf al ft (sSeq a c) (sSeq b c) := by
  funext e
  rw [sSeq_app, sIf_app, sIf_app]
  cases ft e with
  | ok z => cases z <;> rfl
  | exc cc fs => rfl
  | bad => rfl
theorem j_ifs {al : List Nat} {ft : DL.Env → Res Bool} {rt : Res Bool} {ra rb : Res T} (hc : EvR ρ ft rt Tr) (ha : J (fzK al ρ) (sSeq a c) ra P) (hb : J (fzK al ρ) (sSeq b c) rb P) : J ρ (sSeq (sIf al ft a b) c) (rt.bind fun z => if z = true then ra else rb) P := by
  rw [seq_if]; exact j_if hc ha hb
theorem j_ifsP {al : List Nat} {ft : DL.Env → Res Bool} {p : Prop} [Decidable p] {ra rb : Res T} (hc : EvR ρ ft (.ok (decide p)) Tr) (ha : J (fzK al ρ) (sSeq a c) ra P) (hb : J (fzK al ρ) (sSeq b c) rb P) : J ρ (sSeq (sIf al ft a b) c) (if p then ra else rb) P := by
  rw [seq_if]; exact j_ifP hc ha hb
/-! ends -/
theorem j_ret {al : List Nat} {f : DL.Env → Res D} {x : Res R} {E : RE R} {g : R → T} (hP : ∀ v d, E v d → P (g v) (.rt d)) (h : EvR ρ f x E) : J ρ (sSeq (sRet al f) c) (x.bind fun v => .ok (g v)) P := fun e l => by
  have := h e l
  cases x with
  | ok v => obtain ⟨d, h1, h2⟩ := this; show P (g v) _; rw [sSeq_app, sRet_app, h1]; exact hP v d h2
  | exc cc fs => exact ⟨_, by rw [sSeq_app, sRet_app, show f e = _ from this]⟩
  | bad => trivial
theorem j_retT {al : List Nat} {f : DL.Env → Res D} {x : Res R} {E : RE R} (h : EvR ρ f x E) : J ρ (sSeq (sRet al f) c) x (PT E) := by
  have := j_ret (ρ := ρ) (c := c) (al := al) (g := fun v => v) (P := PT E) (fun v d hd => ⟨d, hd, .inl rfl⟩) h
  cases x <;> exact this
theorem j_retL {al : List Nat} {f : DL.Env → Res D} {x : Res R} {E : RE R} {ρs : S → KEnv} (h : EvR ρ f x E) : J ρ (sSeq (sRet al f) c) (x.bind fun v => .ok (.rt v)) (PL ρs E) := j_ret (fun v d hd => ⟨d, hd, .inl rfl⟩) h
theorem j_raise {cn : String} : J ρ (sSeq (sRaise cn) c) (.exc cn []) P := fun e l => ⟨e, rfl⟩
theorem j_end {ρs : S → KEnv} {s : S} (h : Sb (ρs s) ρ) : J ρ sSkip (.ok s) (PN ρs) := fun e l => ⟨e, rfl, l.less h⟩
theorem j_endB {ρs : S → KEnv} {s : S} (h : Sb (ρs s) ρ) : J ρ sSkip (.ok s) (PB ρs) := fun e l => ⟨e, .inl rfl, l.less h⟩
theorem j_endL {ρs : S → KEnv} {E : RE R} {s : S} (h : Sb (ρs s) ρ) : J ρ sSkip (.ok (.nx s)) (PL ρs E) := fun e l => ⟨e, .inl rfl, l.less h⟩
/-- a loop that may return, and what comes behind it -/
def thenX (s : Res (Oc S R)) (m : R → T) (k : S → Res T) : Res T := s.bind fun o => match o with
  | .nx x => k x
  | .rt v => .ok (m v)
  | .bk _ => .bad
theorem j_x {s : Res (Oc S R)} {E : RE R} {ρs : S → KEnv} {k : S → Res T} {m : R → T} (hP : ∀ v d o, E v d → (o = .rt d ∨ o = .ro d) → P (m v) o) (h : J ρ a s (PX ρs E)) (q : ∀ x, J (ρs x) b (k x) P) : J ρ (sSeq a b) (thenX s m k) P := fun e l => by
  have := h e l
  unfold thenX
  cases s with
  | ok x =>
    cases x with
    | nx x =>
      obtain ⟨e', h1, h2⟩ := this
      have : sSeq a b e = b e' := by unfold sSeq; rw [h1]
      show JM (k x) P (sSeq a b e)
      rw [this]
      exact q x e' h2
    | rt v =>
      obtain ⟨d, h1, h2⟩ := this
      show P (m v) (sSeq a b e)
      have : sSeq a b e = a e := by unfold sSeq; rcases h2 with h2 | h2 <;> rw [h2]
      rw [this]
      exact hP v d _ h1 h2
    | bk x => exact this.elim
  | exc cc fs => obtain ⟨e', h1⟩ := this; exact ⟨e', by unfold sSeq; rw [h1]⟩
  | bad => trivial
theorem j_xT {s : Res (Oc S R)} {E : RE R} {ρs : S → KEnv} {k : S → Res R} (h : J ρ a s (PX ρs E)) (q : ∀ x, J (ρs x) b (k x) (PT E)) : J ρ (sSeq a b) (thenX s (fun v => v) k) (PT E) :=
  j_x (fun v d o hd ho => ⟨d, hd, ho.imp (fun z => z) .inl⟩) h q
/-! simple statements -/
theorem g_set {al : List Nat} {i : Nat} {f : DL.Env → Res D} {E : RE α} {x : α} (h : EvR ρ f (.ok x) E) : Go ρ (sSet al i f) ((fzK al ρ).set i (some (sh E x))) := fun e l => by
  obtain ⟨d, h1, h2⟩ := h e l
  exact ⟨_, by rw [sSet_app, h1], (l.fz al).set i ⟨h2, rfl⟩⟩
theorem g_setF {al : List Nat} {i : Nat} {f : DL.Env → Res D} {E : RE α} {x : α} (h : EvR ρ f (.ok x) E) : Go ρ (sSetF al i f) ((fzK al ρ).set i (some (ow E x))) := fun e l => by
  obtain ⟨d, h1, h2⟩ := h e l
  exact ⟨_, by rw [sSetF_app, h1], (l.fz al).set i ⟨h2, rfl⟩⟩
theorem d_set {al : List Nat} {i : Nat} {f : DL.Env → Res D} {E : RE α} {x : Res α} (h : EvR ρ f x E) : J ρ (sSet al i f) x (PN fun v => (fzK al ρ).set i (some (sh E v))) := fun e l => by
  have := h e l
  cases x with
  | ok v => obtain ⟨d, h1, h2⟩ := this; exact ⟨_, by rw [sSet_app, h1], (l.fz al).set i ⟨h2, rfl⟩⟩
  | exc cc fs => exact ⟨_, by rw [sSet_app, show f e = _ from this]⟩
  | bad => trivial
theorem d_setF {al : List Nat} {i : Nat} {f : DL.Env → Res D} {E : RE α} {x : Res α} (h : EvR ρ f x E) : J ρ (sSetF al i f) x (PN fun v => (fzK al ρ).set i (some (ow E v))) := fun e l => by
  have := h e l
  cases x with
  | ok v => obtain ⟨d, h1, h2⟩ := this; exact ⟨_, by rw [sSetF_app, h1], (l.fz al).set i ⟨h2, rfl⟩⟩
  | exc cc fs => exact ⟨_, by rw [sSetF_app, show f e = _ from this]⟩
  | bad => trivial
/-- a pattern takes what is read as E, the names known as ρ then as ρ' -/
def BindR (p : Pat) (E : RE α) (x : α) (ρ ρ' : KEnv) : Prop := ∀ d e, E x d → Le ρ e → ∃ e', p.bind d e = .ok e' ∧ Le ρ' e'
theorem p_nm {i : Nat} {E : RE α} {x : α} : BindR (.nm i) E x ρ (ρ.set i (some (sh E x))) := fun d e h l => ⟨_, rfl, l.set i ⟨h, rfl⟩⟩
/-- .. a list of patterns -/
def BindsR (ps : List Pat) (Q : α → List D → Prop) (x : α) (ρ ρ' : KEnv) : Prop := ∀ ds e, Q x ds → Le ρ e → ∃ e', Pat.binds ps ds e = .ok e' ∧ Le ρ' e'
theorem ps_1 {p : Pat} {E : RE α} {x : α} (h : BindR p E x ρ ρ') : BindsR [p] (q1 E) x ρ ρ' := fun ds e ⟨d, h1, h2⟩ l => by
  obtain ⟨e', a1, a2⟩ := h d e h2 l
  subst h1
  exact ⟨e', by unfold Pat.binds; rw [a1]; rfl, a2⟩
theorem ps_c {p : Pat} {ps : List Pat} {E : RE α} {Q : β → List D → Prop} {x : α} {y : β} {ρ1 : KEnv} (h : BindR p E x ρ ρ1) (t : BindsR ps Q y ρ1 ρ') : BindsR (p :: ps) (qC E Q) (x, y) ρ ρ' := fun ds e ⟨d, r, h1, h2, h3⟩ l => by
  subst h1
  obtain ⟨e1, a1, a2⟩ := h d e h2 l
  obtain ⟨e2, b1, b2⟩ := t r e1 h3 a2
  exact ⟨e2, by unfold Pat.binds; rw [a1]; exact b1, b2⟩
/-- a pair that is a known pair's items, taken apart by name -/
theorem ps_c' {p : Pat} {ps : List Pat} {E : RE α} {Q : β → List D → Prop} {x : α × β} {ρ1 : KEnv} (h : BindR p E x.1 ρ ρ1) (t : BindsR ps Q x.2 ρ1 ρ') : BindsR (p :: ps) (qC E Q) x ρ ρ' := ps_c (x := x.1) (y := x.2) h t
/-- tuples made of items (never a module's constant) -/
def eQ {α : Type} (Q : α → List D → Prop) : RE α := fun a d => ∃ ds, d = .tup ds ∧ Q a ds
theorem p_tp {ps : List Pat} {Q : α → List D → Prop} {x : α} (h : BindsR ps Q x ρ ρ') : BindR (.tp ps) (eQ Q) x ρ ρ' := fun d e ⟨ds, h1, h2⟩ l => by
  subst h1
  exact h ds e h2 l
/-! ### loops -/
def forR {α S : Type} : List α → S → (α → S → Res S) → Res S
  | [], s, _ => .ok s
  | a :: l, s, f => (f a s).bind fun s' => forR l s' f
def forX {α S R : Type} : List α → S → (α → S → Res (Oc S R)) → Res (Oc S R)
  | [], s, _ => .ok (.nx s)
  | a :: l, s, f => (f a s).bind fun o => match o with
    | .nx s' => forX l s' f
    | .bk s' => .ok (.nx s')
    | .rt v => .ok (.rt v)
theorem turns_R {p : Pat} {E : RE α} {ρs : S → KEnv} {ρb : α → S → KEnv} {f : α → S → Res S} (hp : ∀ x s, BindR p E x (ρs s) (ρb x s)) (hb : ∀ x s, J (ρb x s) b (f x s) (PB ρs)) :
    ∀ {l : List α} {ds : List D} {s : S} {e : DL.Env}, A2 E l ds → Le (ρs s) e → JM (forR l s f) (PN ρs) (turns p b ds e)
  | [], ds, s, e, h, l => by rw [show ds = [] from h]; exact ⟨e, rfl, l⟩
  | x :: xs, _, s, e, ⟨d, r, rfl, h1, h2⟩, l => by
    obtain ⟨e1, a1, a2⟩ := hp x s d e h1 l
    have := hb x s e1 a2
    unfold forR turns
    rw [a1]
    cases q : f x s with
    | ok s' =>
      rw [q] at this
      obtain ⟨e2, b1, b2⟩ := this
      have ih := turns_R hp hb (s := s') h2 b2
      rw [Res.bind_ok]
      rcases b1 with b1 | b1 <;> (dsimp only; rw [b1]; exact ih)
    | exc c fs => rw [q] at this; obtain ⟨e2, b1⟩ := this; exact ⟨e2, by dsimp only; rw [b1]⟩
    | bad => trivial
theorem d_for {al : List Nat} {p : Pat} {fi : DL.Env → Res (List D)} {E : RE α} {xs : Res (List α)} {ρs : S → KEnv} {ρb : α → S → KEnv} {f : α → S → Res S} {s : S}
    (hi : EvR ρ fi xs (A2 E)) (h0 : Sb (ρs s) (fzK al ρ)) (hp : ∀ x s, BindR p E x (ρs s) (ρb x s)) (hb : ∀ x s, J (ρb x s) b (f x s) (PB ρs)) : J ρ (sFor al p fi b) (xs.bind fun l => forR l s f) (PN ρs) := fun e l => by
  have := hi e l
  cases xs with
  | ok xs =>
    obtain ⟨ds, h1, h2⟩ := this
    have t := turns_R hp hb h2 ((l.fz al).less h0)
    rw [sFor_app, h1]
    exact t
  | exc c fs => exact ⟨_, by rw [sFor_app, show fi e = _ from this]⟩
  | bad => trivial
theorem turns_X {p : Pat} {E : RE α} {E' : RE R} {ρs : S → KEnv} {ρb : α → S → KEnv} {f : α → S → Res (Oc S R)} (hp : ∀ x s, BindR p E x (ρs s) (ρb x s)) (hb : ∀ x s, J (ρb x s) b (f x s) (PL ρs E')) :
    ∀ {l : List α} {ds : List D} {s : S} {e : DL.Env}, A2 E l ds → Le (ρs s) e → JM (forX l s f) (PX ρs E') (turns p b ds e)
  | [], ds, s, e, h, l => by rw [show ds = [] from h]; exact ⟨e, rfl, l⟩
  | x :: xs, _, s, e, ⟨d, r, rfl, h1, h2⟩, l => by
    obtain ⟨e1, a1, a2⟩ := hp x s d e h1 l
    have := hb x s e1 a2
    unfold forX turns
    rw [a1]
    cases q : f x s with
    | ok o =>
      rw [q] at this
      cases o with
      | nx s' =>
        obtain ⟨e2, b1, b2⟩ := this
        have ih := turns_X hp hb (s := s') h2 b2
        rw [Res.bind_ok]
        rcases b1 with b1 | b1 <;> (dsimp only; rw [b1]; exact ih)
      | bk s' =>
        obtain ⟨e2, b1, b2⟩ := this
        rw [Res.bind_ok]
        dsimp only
        rw [b1]
        exact ⟨e2, rfl, b2⟩
      | rt v =>
        obtain ⟨d, b1, b2⟩ := this
        rw [Res.bind_ok]
        dsimp only
        rcases b2 with b2 | b2 <;> rw [b2]
        · exact ⟨d, b1, .inl rfl⟩
        · exact ⟨d, b1, .inr rfl⟩
    | exc c fs => rw [q] at this; obtain ⟨e2, b1⟩ := this; exact ⟨e2, by dsimp only; rw [b1]⟩
    | bad => trivial
theorem d_forX {al : List Nat} {p : Pat} {fi : DL.Env → Res (List D)} {E : RE α} {E' : RE R} {xs : Res (List α)} {ρs : S → KEnv} {ρb : α → S → KEnv} {f : α → S → Res (Oc S R)} {s : S}
    (hi : EvR ρ fi xs (A2 E)) (h0 : Sb (ρs s) (fzK al ρ)) (hp : ∀ x s, BindR p E x (ρs s) (ρb x s)) (hb : ∀ x s, J (ρb x s) b (f x s) (PL ρs E')) : J ρ (sFor al p fi b) (xs.bind fun l => forX l s f) (PX ρs E') := fun e l => by
  have := hi e l
  cases xs with
  | ok xs =>
    obtain ⟨ds, h1, h2⟩ := this
    have t := turns_X hp hb h2 ((l.fz al).less h0)
    rw [sFor_app, h1]
    exact t
  | exc c fs => exact ⟨_, by rw [sFor_app, show fi e = _ from this]⟩
  | bad => trivial
theorem d_forXP {al : List Nat} {p : Pat} {fi : DL.Env → Res (List D)} {E : RE α} {E' : RE R} {xs : List α} {ρs : S → KEnv} {ρb : α → S → KEnv} {f : α → S → Res (Oc S R)} {s : S}
    (hi : EvR ρ fi (.ok xs) (A2 E)) (h0 : Sb (ρs s) (fzK al ρ)) (hp : ∀ x s, BindR p E x (ρs s) (ρb x s)) (hb : ∀ x s, J (ρb x s) b (f x s) (PL ρs E')) : J ρ (sFor al p fi b) (forX xs s f) (PX ρs E') := d_forX hi h0 hp hb
/-! while -/
/-! ### comprehensions -/
/-- so long that a list of them can be made -/
def Fits (n : Nat) : Prop := n ≤ sizeLine
def mapR {α β : Type} : List α → (α → Res β) → Res (List β)
  | [], _ => .ok []
  | a :: l, f => (f a).bind fun y => (mapR l f).bind fun ys => .ok (y :: ys)
def filR {α β : Type} : List α → (α → Res Bool) → (α → Res β) → Res (List β)
  | [], _, _ => .ok []
  | a :: l, c, f => (c a).bind fun z => if z = true then (f a).bind fun y => (filR l c f).bind fun ys => .ok (y :: ys) else filR l c f
/-- errors within a comprehension are not told -/
def Res.noX {α : Type} : Res α → Res α
  | .exc _ _ => .bad
  | r => r
open Classical in
noncomputable def compR {α β : Type} (l : List α) (f : α → Res β) : Res (List β) := if Fits l.length then (mapR l f).noX else .bad
open Classical in
noncomputable def compF {α β : Type} (l : List α) (c : α → Res Bool) (f : α → Res β) : Res (List β) := if Fits l.length then (filR l c f).noX else .bad
theorem compL_R {p : Pat} {ft : DL.Env → Res Bool} {fe : DL.Env → Res D} {E : RE α} {E' : RE β} {ρ : KEnv} {ρb : α → KEnv} {c : α → Res Bool} {f : α → Res β} (hp : ∀ x, BindR p E x ρ (ρb x)) (hc : ∀ x, EvR (ρb x) ft (c x) Tr) (he : ∀ x, EvR (ρb x) fe (f x) E') :
    ∀ {l : List α} {ds : List D} {e : DL.Env} {ys : List β}, A2 E l ds → Le ρ e → filR l c f = .ok ys → ∃ es, compL e p ft fe ds = .ok es ∧ A2 E' ys es
  | [], ds, e, ys, h, l, q => by
    rw [show ds = [] from h]
    cases (show Res.ok [] = Res.ok ys from q)
    exact ⟨[], rfl, rfl⟩
  | x :: xs, _, e, ys, ⟨d, r, rfl, h1, h2⟩, l, q => by
    obtain ⟨e1, a1, a2⟩ := hp x d e h1 l
    have b1 := hc x e1 a2
    unfold filR at q
    unfold compL
    rw [a1]
    cases hz : c x with
    | ok z =>
      rw [hz, Res.bind_ok] at q
      rw [hz] at b1
      obtain ⟨z', c1, c2⟩ := b1
      dsimp only
      rw [c1, show z' = z from c2]
      cases z with
      | false =>
        rw [if_neg (by simp)] at q
        exact compL_R hp hc he h2 l q
      | true =>
        rw [if_pos rfl] at q
        have b2 := he x e1 a2
        cases hy : f x with
        | ok y =>
          rw [hy, Res.bind_ok] at q
          rw [hy] at b2
          obtain ⟨y', d1, d2⟩ := b2
          cases hr : filR xs c f with
          | ok zs =>
            rw [hr, Res.bind_ok] at q
            cases q
            obtain ⟨es, f1, f2⟩ := compL_R hp hc he h2 l hr
            exact ⟨y' :: es, by dsimp only; rw [d1]; dsimp only; rw [f1]; rfl, y', es, rfl, d2, f2⟩
          | exc cc fs => rw [hr] at q; cases q
          | bad => rw [hr] at q; cases q
        | exc cc fs => rw [hy] at q; cases q
        | bad => rw [hy] at q; cases q
    | exc cc fs => rw [hz] at q; cases q
    | bad => rw [hz] at q; cases q
theorem filR_yes (f : α → Res β) : ∀ l : List α, filR l (fun _ => .ok true) f = mapR l f
  | [] => rfl
  | a :: l => by
    unfold filR mapR
    rw [Res.bind_ok, if_pos rfl, filR_yes f l]
theorem v_compF {own : List Nat} {p : Pat} {fi : DL.Env → Res (List D)} {ft : DL.Env → Res Bool} {fe : DL.Env → Res D} {E : RE α} {E' : RE β} {xs : Res (List α)} {ρb : α → KEnv} {c : α → Res Bool} {f : α → Res β} (hi : EvR ρ fi xs (A2 E))
    (hp : ∀ x, BindR p E x (wipeK ρ own) (ρb x)) (hc : ∀ x, EvR (ρb x) ft (c x) Tr) (he : ∀ x, EvR (ρb x) fe (f x) E') : EvR ρ (eComp own p fi ft fe) (xs.bind fun l => compF l c f) (eL E') := fun e l => by
  unfold eComp
  refine (hi e l).bind fun xs ds h => ?_
  unfold compF
  by_cases hl : Fits xs.length
  · rw [if_pos hl]
    cases q : filR xs c f with
    | ok ys =>
      obtain ⟨es, h1, h2⟩ := compL_R hp hc he h (l.wipe own) q
      rw [if_pos (by rw [A2.length h]; exact hl), h1]
      exact ⟨_, rfl, es, rfl, h2⟩
    | exc cc fs => trivial
    | bad => trivial
  · rw [if_neg hl]; trivial
theorem v_comp {own : List Nat} {p : Pat} {fi : DL.Env → Res (List D)} {fe : DL.Env → Res D} {E : RE α} {E' : RE β} {xs : Res (List α)} {ρb : α → KEnv} {f : α → Res β} (hi : EvR ρ fi xs (A2 E))
    (hp : ∀ x, BindR p E x (wipeK ρ own) (ρb x)) (he : ∀ x, EvR (ρb x) fe (f x) E') : EvR ρ (eComp own p fi bYes fe) (xs.bind fun l => compR l f) (eL E') := by
  have := v_compF (c := fun _ => .ok true) hi hp (fun x e l => ⟨true, rfl, rfl⟩) he
  have q : (fun l => compF l (fun _ => .ok true) f) = fun l => compR l f := by
    funext l
    unfold compF compR
    rw [filR_yes]
  rw [q] at this
  exact this
theorem v_compP {own : List Nat} {p : Pat} {fi : DL.Env → Res (List D)} {fe : DL.Env → Res D} {E : RE α} {E' : RE β} {xs : List α} {ρb : α → KEnv} {f : α → Res β} (hi : EvR ρ fi (.ok xs) (A2 E))
    (hp : ∀ x, BindR p E x (wipeK ρ own) (ρb x)) (he : ∀ x, EvR (ρb x) fe (f x) E') : EvR ρ (eComp own p fi bYes fe) (compR xs f) (eL E') := v_comp hi hp he
/-! ### defs -/
theorem Le.rep : ∀ n, Le (List.replicate n none) (List.replicate n none)
  | 0 => rfl
  | n + 1 => ⟨none, List.replicate n none, rfl, fun P h => (by cases h), Le.rep n⟩
def LeA (ds : List D) (ρ : KEnv) : Prop := A2 (fun (r : Option Kn) (d : D) => ∀ P, r = some P → P d false) ρ ds
theorem LeA.nil : LeA [] [] := rfl
theorem LeA.cons {E : RE α} {x : α} {d : D} {ds : List D} {ρ : KEnv} (h : E x d) (t : LeA ds ρ) : LeA (d :: ds) (some (sh E x) :: ρ) := ⟨d, ds, rfl, fun P hP => by cases hP; exact ⟨h, rfl⟩, t⟩
theorem LeA.le : ∀ {ds : List D} {ρ : KEnv} {n : Nat}, LeA ds ρ → Le (ρ ++ List.replicate n none) (ds.map (fun d => some (d, false)) ++ List.replicate n none)
  | ds, [], n, h => by rw [show ds = [] from h]; exact Le.rep n
  | _, r :: ρ, n, ⟨d, ds, rfl, h, t⟩ => ⟨some (d, false), _, rfl, fun P hP => ⟨d, false, rfl, h P hP⟩, LeA.le t⟩
theorem r_def {n m k : Nat} {fb : DL.Env → Out} {ds : List D} {x : Res R} {E : RE R} (h : LeA ds ρ) (hk : m - n = k) (j : J (ρ ++ List.replicate k none) fb x (PT E)) : Rf (runDef n m fb ds) x E := by
  subst hk
  have := j _ h.le
  unfold runDef env0
  cases x with
  | ok v =>
    obtain ⟨d, h1, h2⟩ := this
    rcases h2 with h2 | h2 | ⟨⟨e, h2⟩, h3⟩
    · rw [h2]; exact ⟨d, rfl, h1⟩
    · rw [h2]; exact ⟨d, rfl, h1⟩
    · rw [h2]; subst h3; exact ⟨_, rfl, h1⟩
  | exc c fs => obtain ⟨e', h2⟩ := this; rw [h2]; rfl
  | bad => trivial
end
end DL

/-! Typed readings: the operations. -/
namespace DL
open PySem PySem.Spec PyProof.Rows L2
open PySem.Builtin.Int (intBits)

/-! ### whole numbers -/
def MulOk (i j : Int) : Prop := intBits i + intBits j ≤ big
open Classical in
noncomputable def mulR (i j : Int) : Res Int := if MulOk i j then .ok (i * j) else .bad
open Classical in
noncomputable def modR (i j : Int) : Res Int := if j ≠ 0 then .ok (i.fmod j) else .bad
theorem mulR_ok {n m : Nat} {i j : Int} (h : Sm n i) (k : Sm m j) (l : n + m ≤ big) : mulR i j = .ok (i * j) := if_pos (h.two k l)
theorem modR_pos {i j : Int} (h : 0 < j) : modR i j = .ok (i % j) := by
  unfold modR
  rw [if_pos (by omega), Int.fmod_eq_emod_of_nonneg _ (by omega)]
section
variable {α β γ : Type}
theorem o_add (a b : Int) : ∀ x y, eI a x → eI b y → Rf (dAdd x y) (.ok (a + b)) eI := by rintro _ _ rfl rfl; exact ⟨_, rfl, rfl⟩
theorem o_sub (a b : Int) : ∀ x y, eI a x → eI b y → Rf (dSub x y) (.ok (a - b)) eI := by rintro _ _ rfl rfl; exact ⟨_, rfl, rfl⟩
theorem o_mul (a b : Int) : ∀ x y, eI a x → eI b y → Rf (dMul x y) (mulR a b) eI := by
  rintro _ _ rfl rfl
  unfold mulR
  by_cases h : MulOk a b
  · rw [if_pos h]; exact ⟨_, if_pos h, rfl⟩
  · rw [if_neg h]; trivial
theorem o_mod (a b : Int) : ∀ x y, eI a x → eI b y → Rf (dMod x y) (modR a b) eI := by
  rintro _ _ rfl rfl
  unfold modR
  by_cases h : b ≠ 0
  · rw [if_pos h]; exact ⟨_, if_pos h, rfl⟩
  · rw [if_neg h]; trivial
/-- by a written number above nought -/
theorem o_divL {b : Int} (a : Int) (h : 0 < b) (k : b < 18446744073709551616) : ∀ x y, eI a x → eI b y → Rf (dDiv x y) (.ok (a / b)) eI := by
  rintro _ _ rfl rfl; exact ⟨_, dDiv_lit _ _ h k, rfl⟩
theorem o_modL {b : Int} (a : Int) (h : 0 < b) : ∀ x y, eI a x → eI b y → Rf (dMod x y) (.ok (a % b)) eI := by
  rintro _ _ rfl rfl; exact ⟨_, dMod_lit _ _ h, rfl⟩
theorem o_powL {a b c : Int} (h : dPow (.int a) (.int b) = .ok (.int c)) : ∀ x y, eI a x → eI b y → Rf (dPow x y) (.ok c) eI := by
  rintro _ _ rfl rfl; exact ⟨_, h, rfl⟩
theorem v_neg {ρ : KEnv} {f : DL.Env → Res D} {a : Int} (h : EvR ρ f (.ok a) eI) : EvR ρ (eNeg f) (.ok (-a)) eI := fun e l => by
  obtain ⟨d, h1, h2⟩ := h e l
  exact ⟨_, by rw [eNeg_app, h1, show d = _ from h2]; rfl, rfl⟩
theorem o_lt (a b : Int) : ∀ x y, eI a x → eI b y → Rf (dLt x y) (.ok (decide (a < b))) eB := by rintro _ _ rfl rfl; exact ⟨_, dLt_int a b, rfl⟩
theorem o_le (a b : Int) : ∀ x y, eI a x → eI b y → Rf (dLe x y) (.ok (decide (a ≤ b))) eB := by rintro _ _ rfl rfl; exact ⟨_, dLe_int a b, rfl⟩
theorem o_gt (a b : Int) : ∀ x y, eI a x → eI b y → Rf (dGt x y) (.ok (decide (b < a))) eB := by rintro _ _ rfl rfl; exact ⟨_, dGt_int a b, rfl⟩
theorem o_ge (a b : Int) : ∀ x y, eI a x → eI b y → Rf (dGe x y) (.ok (decide (b ≤ a))) eB := by rintro _ _ rfl rfl; exact ⟨_, dGe_int a b, rfl⟩
/-! ### equality -/
structure EqE {α : Type} [DecidableEq α] (E : RE α) (n : Nat) : Prop where
  pl : ∀ a d, E a d → d.pl n = true
  beq : ∀ a b x y, E a x → E b y → PyData.eqv x.py y.py = decide (a = b)
structure EqQ {α : Type} [DecidableEq α] (Q : α → List D → Prop) (n : Nat) : Prop where
  pl : ∀ a d, Q a d → D.pls d n = true
  beq : ∀ a b x y, Q a x → Q b y → PyData.eqvAll (D.pys x) (D.pys y) = decide (a = b)
theorem EqE.int (n : Nat) : EqE eI n := ⟨by rintro a _ rfl; rfl, by
  rintro a b _ _ rfl rfl
  simp [D.py, PyData.eqv]
  exact Bool.eq_iff_iff.mpr (by simp)⟩
theorem EqE.bl (n : Nat) : EqE eB n := ⟨by rintro a _ rfl; rfl, by
  rintro a b _ _ rfl rfl
  cases a <;> cases b <;> rfl⟩
theorem EqE.row (n : Nat) : EqE eR (n + 1) := ⟨by rintro a _ rfl; exact ans_pl a n, by rintro a b _ _ rfl rfl; exact beq_ans a b⟩
theorem a2_pls [DecidableEq α] {E : RE α} {n : Nat} (h : EqE E n) : ∀ {l : List α} {ds : List D}, A2 E l ds → D.pls ds n = true
  | [], _, e => by rw [show _ = [] from e]; rfl
  | a :: l, _, ⟨d, r, rfl, x, y⟩ => by rw [D.pls, h.pl a d x, a2_pls h y]; rfl
theorem a2_eqvs [DecidableEq α] {E : RE α} {n : Nat} (h : EqE E n) : ∀ {l l' : List α} {ds es : List D}, A2 E l ds → A2 E l' es → PyData.eqvAll (D.pys ds) (D.pys es) = decide (l = l')
  | [], [], _, _, e, f => by rw [show _ = [] from e, show _ = [] from f]; simp [D.pys, PyData.eqvAll]
  | [], _ :: _, _, _, e, ⟨d, r, rfl, _, _⟩ => by rw [show _ = [] from e]; simp [D.pys, PyData.eqvAll]
  | _ :: _, [], _, _, ⟨d, r, rfl, _, _⟩, f => by rw [show _ = [] from f]; simp [D.pys, PyData.eqvAll]
  | a :: l, b :: l', _, _, ⟨d, r, rfl, x1, x2⟩, ⟨d', r', rfl, y1, y2⟩ => by
    simp only [D.pys, PyData.eqvAll, h.beq a b d d' x1 y1, a2_eqvs h x2 y2]
    by_cases h1 : a = b <;> by_cases h2 : l = l' <;> simp [h1, h2]
theorem EqE.lst [DecidableEq α] {E : RE α} {n : Nat} (h : EqE E n) : EqE (eL E) (n + 1) := ⟨by
  rintro a _ ⟨ds, rfl, r⟩; exact a2_pls h r, by
  rintro a b _ _ ⟨ds, rfl, r⟩ ⟨es, rfl, s⟩
  rw [D.py, D.py, PyData.eqv]; exact a2_eqvs h r s⟩
theorem EqE.tup [DecidableEq α] {E : RE α} {n : Nat} (h : EqE E n) : EqE (eT E) (n + 1) := ⟨by
  rintro a _ ⟨ds, rfl, r⟩; exact a2_pls h r, by
  rintro a b _ _ ⟨ds, rfl, r⟩ ⟨es, rfl, s⟩
  rw [D.py, D.py, PyData.eqv]; exact a2_eqvs h r s⟩
theorem EqQ.one [DecidableEq α] {E : RE α} {n : Nat} (h : EqE E n) : EqQ (q1 E) n := ⟨by
  rintro a _ ⟨d, rfl, r⟩; simp [D.pls, h.pl a d r], by
  rintro a b _ _ ⟨d, rfl, r⟩ ⟨d', rfl, r'⟩
  simp only [D.pys, PyData.eqvAll, h.beq a b d d' r r', Bool.and_true]⟩
theorem EqQ.c [DecidableEq α] [DecidableEq β] {E : RE α} {Q : β → List D → Prop} {n : Nat} (h : EqE E n) (k : EqQ Q n) : EqQ (qC E Q) n := ⟨by
  rintro a _ ⟨d, r, rfl, h1, h2⟩; simp [D.pls, h.pl _ d h1, k.pl _ r h2], by
  rintro a b _ _ ⟨d, r, rfl, h1, h2⟩ ⟨d', r', rfl, h3, h4⟩
  simp only [D.pys, PyData.eqvAll, h.beq _ _ d d' h1 h3, k.beq _ _ r r' h2 h4]
  obtain ⟨a1, a2⟩ := a
  obtain ⟨b1, b2⟩ := b
  by_cases h1 : a1 = b1 <;> by_cases h2 : a2 = b2 <;> simp [h1, h2]⟩
theorem dEq_of {x y : D} {b : Bool} (h : x.pl 60 = true) (k : y.pl 60 = true) (e : PyData.eqv x.py y.py = b) : dEq x y = .ok (.bl b) := by
  cases x with
  | str s =>
    cases y with
    | str t =>
      subst e
      simp [dEq, D.py, PyData.eqv]
      exact Bool.eq_iff_iff.mpr (by simp)
    | _ => simp only [dEq]; rw [if_pos ⟨h, k⟩, D.beq, e]
  | _ => simp only [dEq]; rw [if_pos ⟨h, k⟩, D.beq, e]
theorem dNe_of {x y : D} {b : Bool} (h : x.pl 60 = true) (k : y.pl 60 = true) (e : PyData.eqv x.py y.py = b) : dNe x y = .ok (.bl (!b)) := by
  cases x with
  | str s =>
    cases y with
    | str t =>
      subst e
      simp [dNe, D.py, PyData.eqv]
      exact Bool.eq_iff_iff.mpr (by simp)
    | _ => simp only [dNe]; rw [if_pos ⟨h, k⟩, D.beq, e]
  | _ => simp only [dNe]; rw [if_pos ⟨h, k⟩, D.beq, e]
theorem o_eq [DecidableEq α] {E : RE α} (h : EqE E 60) (a b : α) : ∀ x y, E a x → E b y → Rf (dEq x y) (.ok (decide (a = b))) eB := fun x y hx hy =>
  ⟨_, dEq_of (h.pl a x hx) (h.pl b y hy) (h.beq a b x y hx hy), rfl⟩
theorem o_ne [DecidableEq α] {E : RE α} (h : EqE E 60) (a b : α) : ∀ x y, E a x → E b y → Rf (dNe x y) (.ok (decide (a ≠ b))) eB := fun x y hx hy =>
  ⟨_, dNe_of (h.pl a x hx) (h.pl b y hy) (h.beq a b x y hx hy), by simp [eB]⟩
theorem o_eqS (a b : Str) : ∀ x y, eS a x → eS b y → Rf (dEq x y) (.ok (decide (a = b))) eB := by rintro _ _ rfl rfl; exact ⟨_, dEq_str a b, rfl⟩
theorem o_neS (a b : Str) : ∀ x y, eS a x → eS b y → Rf (dNe x y) (.ok (decide (a ≠ b))) eB := by rintro _ _ rfl rfl; exact ⟨_, dNe_str a b, by simp [eB]⟩
/-! ### raw data -/
def D.asI : D → Res Int
  | .int i => .ok i
  | _ => .bad
def asIs : List D → Res (List Int)
  | [] => .ok []
  | .int i :: r => (asIs r).bind fun l => .ok (i :: l)
  | _ => .bad
def D.asR : D → Res (List Int)
  | .tup xs => asIs xs
  | _ => .bad
@[simp] theorem asIs_ints : ∀ l : List Int, asIs (l.map D.int) = .ok l
  | [] => rfl
  | i :: l => by rw [List.map_cons, asIs, asIs_ints l]; rfl
@[simp] theorem asR_ans (l : List Int) : D.asR (ans l) = .ok l := asIs_ints l
section
variable {ρ : KEnv} {f : DL.Env → Res D} {r : Res D}
theorem v_asI (h : EvR ρ f r eD) : EvR ρ f (r.bind D.asI) eI := v_as h (fun a d c h1 h2 => by
  rw [show d = a from h1]; cases a <;> cases h2; rfl) fun a c fs h => by cases a <;> cases h
end
/-! ### lists and tuples -/
def getL {α : Type} (l : List α) (i : Int) : Res α := match atI l i with
  | some a => .ok a
  | none => .bad
theorem atI_A2 {E : RE α} {l : List α} {ds : List D} (h : A2 E l ds) {i : Int} {a : α} (q : atI l i = some a) : ∃ d, atI ds i = some d ∧ E a d := by
  unfold atI at q ⊢
  rw [h.length]
  cases k : ixN l.length i with
  | none => rw [k] at q; cases q
  | some j => rw [k] at q; exact h.get q
theorem o_ixA {x : D} (h : ∀ t kvs, x ≠ .dct t kvs) (y : D) : dIxA x y = dIx x y := by
  unfold dIxA
  cases x with
  | dct t kvs => exact absurd rfl (h t kvs)
  | _ => rfl
theorem o_ixL {E : RE α} (l : List α) (i : Int) : ∀ x y, eL E l x → eI i y → Rf (dIx x y) (getL l i) E := by
  rintro _ _ ⟨ds, rfl, r⟩ rfl
  unfold getL
  cases q : atI l i with
  | none => trivial
  | some a => obtain ⟨d, h1, h2⟩ := atI_A2 r q; exact ⟨d, by simp [dIx, h1], h2⟩
theorem o_ixAL {E : RE α} (l : List α) (i : Int) : ∀ x y, eL E l x → eI i y → Rf (dIxA x y) (getL l i) E := fun x y h k => by
  rw [o_ixA (by obtain ⟨ds, rfl, r⟩ := h; intros; simp)]
  exact o_ixL l i x y h k
@[simp] theorem getL_zero (a : α) (l : List α) : getL (a :: l) 0 = .ok a := by simp [getL, atI, ixN]
theorem getL_nat {l : List α} {i : Nat} {a : α} (h : l[i]? = some a) : getL l (i : Int) = .ok a := by
  unfold getL
  rw [atI_nat h]
/-- some item stands at every place, told from either end -/
theorem getL_mem {l : List α} {i : Int} (h : -(l.length : Int) ≤ i) (k : i < l.length) : ∃ a ∈ l, getL l i = .ok a := by
  obtain ⟨j, a, b⟩ := ixN_of h k
  exact ⟨l[j], List.getElem_mem _, by simp [getL, atI, a, b]⟩
theorem o_lenL {E : RE α} (l : List α) : ∀ x, eL E l x → Rf (dLen x) (.ok (l.length : Int)) eI := by rintro _ ⟨ds, rfl, r⟩; exact ⟨_, rfl, by rw [← r.length]; rfl⟩
theorem o_lenT {E : RE α} (l : List α) : ∀ x, eT E l x → Rf (dLen x) (.ok (l.length : Int)) eI := by rintro _ ⟨ds, rfl, r⟩; exact ⟨_, rfl, by rw [← r.length]; rfl⟩
theorem o_lenR (l : List Int) : ∀ x, eR l x → Rf (dLen x) (.ok (l.length : Int)) eI := by rintro _ rfl; exact ⟨_, rfl, by simp [eI]⟩
theorem o_tupL {E : RE α} (l : List α) : ∀ x, eL E l x → Rf (dTuple x) (.ok l) (eT E) := by rintro _ ⟨ds, rfl, r⟩; exact ⟨_, rfl, ds, rfl, r⟩
theorem o_tupLR (l : List Int) : ∀ x, eL eI l x → Rf (dTuple x) (.ok l) eR := by rintro _ ⟨ds, rfl, r⟩; exact ⟨_, rfl, by rw [A2.fn.mp r]; rfl⟩
theorem bls_of : ∀ l : List Bool, D.bls (l.map D.bl) = some l
  | [] => rfl
  | b :: l => by rw [List.map_cons, D.bls, bls_of l]; rfl
theorem o_all (l : List Bool) : ∀ x, eL eB l x → Rf (dAll x) (.ok (l.all fun b => b)) eB := by
  rintro _ ⟨ds, rfl, r⟩; rw [A2.fn.mp r]; exact ⟨_, by show (match D.bls _ with | some ns => _ | none => _) = _; rw [bls_of]; rfl, rfl⟩
open Classical in
noncomputable def sortKR (l : List (List Int)) : Res (List (List Int)) := if Fits l.length then .ok (sortK l) else .bad
theorem sort_K (l : List (List Int)) {x : D} (h : x.items = some (rowsD l)) : Rf (dSorted x) (sortKR l) (eL eR) := by
  unfold sortKR
  by_cases k : Fits l.length
  · rw [if_pos k]; exact ⟨_, sorted_rows k h, _, rfl, A2.fn.mpr rfl⟩
  · rw [if_neg k]; trivial
theorem o_sortLK (l : List (List Int)) : ∀ x, eL eR l x → Rf (dSorted x) (sortKR l) (eL eR) := by rintro _ ⟨ds, rfl, r⟩; exact sort_K l (by rw [A2.fn.mp r]; rfl)
open Classical in
noncomputable def catR {α : Type} (a b : List α) : Res (List α) := if Fits (a.length + b.length) then .ok (a ++ b) else .bad
theorem rf_cat {E : RE α} {a b : List α} {ds es : List D} (h : A2 E a ds) (k : A2 E b es) {x : Res D} {C : List D → D} (hx : ds.length + es.length ≤ sizeLine → x = .ok (C (ds ++ es))) {E' : RE (List α)} (hc : ∀ l ds, A2 E l ds → E' l (C ds)) : Rf x (catR a b) E' := by
  unfold catR
  by_cases q : Fits (a.length + b.length)
  · rw [if_pos q]; exact ⟨_, hx (by rw [h.length, k.length]; exact q), hc _ _ (h.append k)⟩
  · rw [if_neg q]; trivial
theorem o_catL {E : RE α} (a b : List α) : ∀ x y, eL E a x → eL E b y → Rf (dAdd x y) (catR a b) (eL E) := by rintro _ _ ⟨ds, rfl, r⟩ ⟨es, rfl, s⟩; exact rf_cat (C := D.lst) r s (fun h => if_pos h) fun l ds h => ⟨ds, rfl, h⟩
theorem o_catF {E : RE α} (a b : List α) : ∀ x y, eL E a x → eL E b y → Rf (dCat x y) (catR a b) (eL E) := by rintro _ _ ⟨ds, rfl, r⟩ ⟨es, rfl, s⟩; exact rf_cat (C := D.lst) r s (fun h => if_pos h) fun l ds h => ⟨ds, rfl, h⟩
theorem catR_ok {a b : List α} (h : a.length + b.length ≤ 10000000) : catR a b = .ok (a ++ b) := if_pos (show _ ≤ sizeLine by rw [PySem.sizeLine_eq]; omega)
section
variable {ρ : KEnv} {f g : DL.Env → Res D}
/-! slices -/
def Eqv {α : Type} : α → α → Prop := fun a b => b = a
theorem vo_n : EvR ρ oNone (.ok none) Eqv := fun e l => ⟨none, rfl, rfl⟩
theorem vo_s {i : Int} (h : EvR ρ f (.ok i) eI) : EvR ρ (oSome f) (.ok (some i)) Eqv := fun e l => by
  obtain ⟨d, h1, h2⟩ := h e l
  exact ⟨some i, by rw [oSome_app, h1, show d = _ from h2]; rfl, rfl⟩
variable {fl fh : DL.Env → Res (Option Int)} {lo hi : Option Int}
/-! what is walked -/
theorem v_seqL {E : RE α} {r : Res (List α)} (h : EvR ρ f r (eL E)) : EvR ρ (iSeq f) r (A2 E) := fun e l => by
  have := h e l
  rw [iSeq_app]
  cases r with
  | ok a => obtain ⟨d, e1, ds, rfl, h1⟩ := this; rw [e1]; exact ⟨ds, rfl, h1⟩
  | exc c fs => rw [show f e = _ from this]; rfl
  | bad => trivial
def rangeI (lo hi : Int) : List Int := (List.range (hi - lo).toNat).map fun i => lo + (i : Nat)
open Classical in
noncomputable def rng1 (n : Int) : Res (List Int) := if Rg n then .ok (rangeI 0 n) else .bad
theorem rangeI_A2 (m n : Int) : A2 eI (rangeI m n) (rangeD m n) := A2.fn.mpr (by unfold rangeI rangeD; rw [List.map_map]; rfl)
theorem v_rng1 {r : Res Int} (h : EvR ρ f r eI) : EvR ρ (iRange1 f) (r.bind rng1) (A2 eI) := fun e l => by
  rw [iRange1_app]
  refine (h e l).bind fun n d hd => ?_
  rw [show d = _ from hd]
  unfold rng1
  by_cases k : Rg n
  · rw [if_pos k]; exact ⟨_, range1D_int n k, rangeI_A2 0 n⟩
  · rw [if_neg k]; trivial
theorem v_rng1p {n : Int} (h : EvR ρ f (.ok n) eI) : EvR ρ (iRange1 f) (rng1 n) (A2 eI) := v_rng1 h
/-- range(n) whose number is small enough: no questions asked -/
theorem rng1_ok {n : Int} (h : -1000000000 ≤ n) (k : n ≤ 1000000000) : rng1 n = .ok (rangeI 0 n) := if_pos (Rg.of h k)
def enumL {α : Type} : Nat → List α → List (Int × α)
  | _, [] => []
  | n, x :: xs => ((n : Nat), x) :: enumL (n + 1) xs
theorem enum_A2 {E : RE α} : ∀ (n : Nat) {l : List α} {ds : List D}, A2 E l ds → A2 (eQ (qC eI (q1 E))) (enumL n l) (enumT n ds)
  | _, [], _, h => by rw [show _ = [] from h]; rfl
  | n, a :: l, _, ⟨d, r, rfl, x, y⟩ => ⟨_, _, rfl, ⟨_, rfl, _, _, rfl, rfl, _, rfl, x⟩, enum_A2 (n + 1) y⟩
theorem v_enumL {E : RE α} {r : Res (List α)} (h : EvR ρ f r (eL E)) : EvR ρ (iEnum f) (r.bind fun l => .ok (enumL 0 l)) (A2 (eQ (qC eI (q1 E)))) := fun e l => by
  rw [iEnum_app]
  refine (h e l).bind fun xs d ⟨ds, h1, h2⟩ => ?_
  rw [h1]
  exact ⟨_, rfl, enum_A2 0 h2⟩
/-- a list or tuple, as a reading of what is walked -/
def Sq {α : Type} (E : RE α) : RE (List α) := fun l d => ∃ ds, seqOf d = some ds ∧ A2 E l ds
theorem sq_L {E : RE α} (a : List α) : ∀ d, eL E a d → Sq E a d := fun d ⟨ds, h, r⟩ => ⟨ds, by rw [h]; rfl, r⟩
end
/-! ### lists that are changed -/
open Classical in
noncomputable def appR {α : Type} (l : List α) (a : α) : Res (List α) := if l.length < sizeLine then .ok (l ++ [a]) else .bad
theorem appR_ok {l : List α} {a : α} (h : l.length ≤ 10000000) : appR l a = .ok (l ++ [a]) := if_pos (by rw [PySem.sizeLine_eq]; omega)
section
variable {ρ : KEnv}
theorem sMut_J {al : List Nat} {i : Nat} {gm : List D → List D → Option (List D)} {fs : DL.Env → Res (List D)} {E : RE α} {l : List α} {Q : β → List D → Prop} {r : Res β} {t : β → Res (List α)}
    (hf : (fzK al ρ)[i]? = some (some (ow (eL E) l))) (hr : EvR ρ fs r Q) (hg : ∀ ds b es l', A2 E l ds → Q b es → t b = .ok l' → ∃ ds', gm ds es = some ds' ∧ A2 E l' ds') (hn : ∀ b c fs, t b ≠ .exc c fs) : J ρ (sMut al i gm fs) (r.bind t) (PN fun l' => (fzK al ρ).set i (some (ow (eL E) l'))) := fun e le => by
  have lf := le.fz al
  obtain ⟨d, o, h1, ⟨ds, h2, h3⟩, h4⟩ := lf.get hf
  subst h2 h4
  have := hr e le
  have main : sMut al i gm fs e = (match fs e with | .ok es => (match gm ds es with | some ys => .nx ((fz al e).set i (some (.lst ys, true))) | none => .bad) | .exc c fs' => .ex c fs' (fz al e) | .bad => .bad) := by
    rw [sMut_app, ownL_app, h1]
    dsimp only
    rw [sE_app]
    cases fs e <;> rfl
  rw [main]
  cases r with
  | ok b =>
    obtain ⟨es, h5, h6⟩ := this
    rw [h5]
    show JM (t b) _ _
    cases q : t b with
    | ok l' =>
      obtain ⟨ds', h7, h8⟩ := hg ds b es l' h3 h6 q
      dsimp only
      rw [h7]
      exact ⟨_, rfl, lf.set i ⟨⟨ds', rfl, h8⟩, rfl⟩⟩
    | exc c fs' => exact absurd q (hn _ _ _)
    | bad => trivial
  | exc c fs' => rw [show fs e = _ from this]; exact ⟨_, rfl⟩
  | bad => trivial
theorem appR_nx (l : List α) (a : α) (c : String) (fs : List (D × D)) : appR l a ≠ .exc c fs := by unfold appR; split <;> simp
theorem d_app {al : List Nat} {i : Nat} {f : DL.Env → Res D} {E : RE α} {l : List α} {r : Res α} (hf : (fzK al ρ)[i]? = some (some (ow (eL E) l))) (h : EvR ρ f r E) : J ρ (sMut al i gAppend (aCons f aNil)) (r.bind fun a => appR l a) (PN fun l' => (fzK al ρ).set i (some (ow (eL E) l'))) :=
  sMut_J hf (vq_1 h) (fun ds b es l' h1 h2 h3 => by
    obtain ⟨d, rfl, h4⟩ := h2
    unfold appR at h3
    split at h3
    · rename_i hl
      cases h3
      exact ⟨ds ++ [d], by unfold gAppend; dsimp only; rw [if_pos (by rw [h1.length]; exact hl)], h1.append ⟨d, [], rfl, h4, rfl⟩⟩
    · cases h3) (fun b => appR_nx l b)
theorem d_appP {al : List Nat} {i : Nat} {f : DL.Env → Res D} {E : RE α} {l : List α} {a : α} (hf : (fzK al ρ)[i]? = some (some (ow (eL E) l))) (h : EvR ρ f (.ok a) E) : J ρ (sMut al i gAppend (aCons f aNil)) (appR l a) (PN fun l' => (fzK al ρ).set i (some (ow (eL E) l'))) := d_app hf h
/-- l[k] = v -/
def putLR {α : Type} (l : List α) (k : Int) (v : α) : Res (List α) := match ixN l.length k with
  | some j => .ok (l.set j v)
  | none => .bad
theorem d_putL {al : List Nat} {i : Nat} {fk fv : DL.Env → Res D} {E : RE α} {l : List α} {rk : Res Int} {rv : Res α} (hf : (fzK al ρ)[i]? = some (some (ow (eL E) l))) (hk : EvR ρ fk rk eI) (hv : EvR ρ fv rv E) : J ρ (sPutL al i fk fv) (rv.bind fun v => rk.bind fun k => putLR l k v) (PN fun l' => (fzK al ρ).set i (some (ow (eL E) l'))) := fun e le => by
  have lf := le.fz al
  obtain ⟨d, o, h1, ⟨ds, h2, h3⟩, h4⟩ := lf.get hf
  subst h2 h4
  have hk' := hk e le
  have hv' := hv e le
  rw [sPutL_app, ownL_app, h1]
  dsimp only
  rw [sE_app]
  cases rv with
  | ok v =>
    obtain ⟨y, b1, b2⟩ := hv'
    rw [b1]
    cases rk with
    | ok k =>
      obtain ⟨x, a1, rfl⟩ := hk'
      rw [a1]
      show JM (putLR l k v) _ _
      unfold putLR
      cases q : ixN l.length k with
      | none => trivial
      | some j =>
        have q' : ixN ds.length k = some j := by rw [h3.length]; exact q
        exact ⟨_, by simp only [Res.bind_ok]; rw [q'], lf.set i ⟨⟨_, rfl, h3.set b2 j⟩, rfl⟩⟩
    | exc c fs => rw [show fk e = _ from hk']; exact ⟨_, rfl⟩
    | bad => trivial
  | exc c fs => rw [show fv e = _ from hv']; exact ⟨_, rfl⟩
  | bad => trivial
end
/-! ### dicts -/
structure KeyF {α : Type} (t : Bool) (f : α → D) : Prop where
  inj : ∀ a b, f a = f b → a = b
  ok : ∀ a, D.keyOk t (f a) = true
theorem KeyF.int : KeyF false D.int := ⟨fun a b h => by injection h, fun a => rfl⟩
theorem KeyF.str : KeyF false D.str := ⟨fun a b h => by injection h, fun a => rfl⟩
theorem KeyF.row : KeyF true ans := ⟨fun a b h => ans_inj h, ans_key⟩
section
variable [DecidableEq α] {t : Bool} {f : α → D} {E : RE β}
variable {ρ : KEnv}
end
end
end DL

/-! Typed readings: more operations, casts. -/
namespace DL
open PySem PySem.Spec PyProof.Rows L2
open PySem.Builtin.Int (intBits)

theorem Res.assoc {α β γ : Type} (r : Res α) (f : α → Res β) (g : β → Res γ) : (r.bind f).bind g = r.bind fun a => (f a).bind g := by cases r <;> rfl
@[simp] theorem pow_10_30 : dPow (.int 10) (.int 30) = .ok (.int (10 ^ 30)) := dPow_of (by decide +kernel)
@[simp] theorem pow_10_12 : dPow (.int 10) (.int 12) = .ok (.int (10 ^ 12)) := dPow_of (by decide +kernel)
@[simp] theorem pow_10_6 : dPow (.int 10) (.int 6) = .ok (.int (10 ^ 6)) := dPow_of (by decide +kernel)
section
variable {α β γ : Type} {ρ : KEnv}
theorem v_eqr {f : DL.Env → Res β} {r r' : Res α} {E : α → β → Prop} (h : EvR ρ f r E) (e : r = r') : EvR ρ f r' E := e ▸ h
theorem v_opl {fa fb : DL.Env → Res D} {g : D → D → Res D} {Ea : RE α} {Eb : RE β} {Ec : RE γ} {ra : Res α} {b : β} {gt : α → Res γ} (hg : ∀ a x y, Ea a x → Eb b y → Rf (g x y) (gt a) Ec) (ha : EvR ρ fa ra Ea) (hb : EvR ρ fb (.ok b) Eb) :
    EvR ρ (eOp g fa fb) (ra.bind gt) Ec := fun e l => (ha e l).bind fun a x h1 => by
  obtain ⟨y, h2, h3⟩ := hb e l
  rw [h2]
  exact hg a x y h1 h3
theorem v_1i {fa : DL.Env → Res D} {g : D → Res D} {Ea Ec : RE α} {ra : Res α} (hg : ∀ a x, Ea a x → Rf (g x) (.ok a) Ec) (ha : EvR ρ fa ra Ea) : EvR ρ (e1 g fa) ra Ec := fun e l => by
  have := (ha e l).bind hg
  cases ra <;> exact this
theorem b_andM {fa fb : DL.Env → Res Bool} {P : Prop} [Decidable P] {rb : Res Bool} (ha : EvR ρ fa (.ok (decide P)) Tr) (hb : EvR ρ fb rb Tr) : EvR ρ (bAnd fa fb) (if P then rb else .ok false) Tr := fun e l => by
  have := b_and ha hb e l
  rw [show (Res.ok (decide P)).bind (fun b => if b = true then rb else .ok false) = (if P then rb else .ok false) by by_cases h : P <;> simp [h]] at this
  exact this
theorem b_orM {fa fb : DL.Env → Res Bool} {P : Prop} [Decidable P] {rb : Res Bool} (ha : EvR ρ fa (.ok (decide P)) Tr) (hb : EvR ρ fb rb Tr) : EvR ρ (bOr fa fb) (if P then .ok true else rb) Tr := fun e l => by
  have := b_or ha hb e l
  rw [show (Res.ok (decide P)).bind (fun b => if b = true then .ok true else rb) = (if P then .ok true else rb) by by_cases h : P <;> simp [h]] at this
  exact this
/-! shares written down -/
/-! readings by a function -/
def Fun {α : Type} (E : RE α) (f : α → D) : Prop := ∀ a d, E a d ↔ eD (f a) d
def FunQ {α : Type} (Q : α → List D → Prop) (f : α → List D) : Prop := ∀ a d, Q a d ↔ d = f a
def fLst {α : Type} (f : α → D) : List α → D := fun l => .lst (l.map f)
def fTup {α : Type} (f : α → D) : List α → D := fun l => .tup (l.map f)
def fOne {α : Type} (f : α → D) : α → List D := fun a => [f a]
def fCons {α β : Type} (f : α → D) (g : β → List D) : α × β → List D := fun p => f p.1 :: g p.2
theorem Fun.int : Fun eI D.int := fun a d => Iff.rfl
theorem Fun.bl : Fun eB D.bl := fun a d => Iff.rfl
theorem Fun.str : Fun eS D.str := fun a d => Iff.rfl
theorem Fun.row : Fun eR ans := fun a d => Iff.rfl
theorem Fun.non : Fun eN (fun _ => D.non) := fun a d => Iff.rfl
theorem a2_fun {E : RE α} {f : α → D} (h : Fun E f) (l : List α) (ds : List D) : A2 E l ds ↔ ds = l.map f := by
  rw [← A2.fn]
  exact ⟨A2.imp fun a d => (h a d).mp, A2.imp fun a d => (h a d).mpr⟩
theorem Fun.lst {E : RE α} {f : α → D} (h : Fun E f) : Fun (eL E) (fLst f) := fun a d =>
  ⟨fun ⟨ds, e, r⟩ => by rw [e, (a2_fun h a ds).mp r]; rfl, fun e => ⟨_, e, (a2_fun h a _).mpr rfl⟩⟩
theorem Fun.tup {E : RE α} {f : α → D} (h : Fun E f) : Fun (eT E) (fTup f) := fun a d =>
  ⟨fun ⟨ds, e, r⟩ => by rw [e, (a2_fun h a ds).mp r]; rfl, fun e => ⟨_, e, (a2_fun h a _).mpr rfl⟩⟩
theorem FunQ.one {E : RE α} {f : α → D} (h : Fun E f) : FunQ (q1 E) (fOne f) := fun a d =>
  ⟨fun ⟨x, e, r⟩ => by rw [e, show x = _ from (h a x).mp r]; rfl, fun e => ⟨_, e, (h a _).mpr rfl⟩⟩
theorem FunQ.c {E : RE α} {f : α → D} {Q : β → List D → Prop} {g : β → List D} (h : Fun E f) (k : FunQ Q g) : FunQ (qC E Q) (fCons f g) := fun a d =>
  ⟨fun ⟨x, y, e, r, s⟩ => by rw [e, show x = _ from (h _ x).mp r, (k _ y).mp s]; rfl, fun e => ⟨_, _, e, (h _ _).mpr rfl, (k _ _).mpr rfl⟩⟩
/-! something or nothing -/
def optR {α : Type} : Option α → Res α
  | some a => .ok a
  | none => .bad
@[simp] theorem optR_some (a : α) : optR (some a) = .ok a := rfl
theorem v_asO {f : DL.Env → Res D} {E : RE α} {r : Res (Option α)} (h : EvR ρ f r (eO E)) : EvR ρ f (r.bind optR) E := v_as h (fun a d c h1 h2 => by
  cases a with
  | none => cases h2
  | some a => cases h2; exact h1) fun a c fs h => by cases a <;> cases h
/-- never None -/
def NonN {α : Type} (E : RE α) : Prop := ∀ a d, E a d → dIs d .non = .ok (.bl false)
theorem nn_I : NonN eI := by rintro a _ rfl; rfl
theorem nn_R : NonN eR := by rintro a _ rfl; rfl
theorem o_isN {E : RE α} (h : NonN E) (a : Option α) (u : Unit) : ∀ x y, eO E a x → eN u y → Rf (dIs x y) (.ok (decide (a = none))) eB := by
  rintro x _ hx rfl
  cases a with
  | none => rw [show x = _ from hx]; exact ⟨_, rfl, rfl⟩
  | some a => exact ⟨_, h a x hx, rfl⟩
/-! texts -/
open Classical in
noncomputable def catS (a b : Str) : Res Str := if a.length + b.length ≤ sizeLine then .ok (a ++ b) else .bad
theorem o_catS (a b : Str) : ∀ x y, eS a x → eS b y → Rf (dAdd x y) (catS a b) eS := by
  rintro _ _ rfl rfl
  unfold catS
  by_cases h : a.length + b.length ≤ sizeLine
  · rw [if_pos h]; exact ⟨_, if_pos h, rfl⟩
  · rw [if_neg h]; trivial
open Classical in
noncomputable def lenS (a : Str) : Res Int := if a.length ≤ sizeLine then .ok (a.length : Int) else .bad
theorem o_lenS (a : Str) : ∀ x, eS a x → Rf (dLen x) (lenS a) eI := by
  rintro _ rfl
  unfold lenS
  by_cases h : a.length ≤ sizeLine
  · rw [if_pos h]; exact ⟨_, if_pos h, rfl⟩
  · rw [if_neg h]; trivial
/-! keys -/
/-! tuples of raw data taken apart -/
/-! kinds of things -/
section
variable {E : RE α} {Q : α → List D → Prop}
end
/-! dicts: displays, copies, equality -/
/-! slices with a step -/
end
end DL

/-! What typed reckonings come to: they end well, and with what. -/
namespace DL
open PySem PySem.Spec PyProof.Rows L2
open PySem.Builtin.Int (intBits)
/-- it ends well, with what P says -/
def Ok {α : Type} (r : Res α) (P : α → Prop) : Prop := ∃ a, r = .ok a ∧ P a
section
variable {α β S R : Type}
theorem Ok.ok {a : α} {P : α → Prop} (h : P a) : Ok (.ok a) P := ⟨a, rfl, h⟩
theorem Ok.of {r : Res α} {a : α} {P : α → Prop} (e : r = .ok a) (h : P a) : Ok r P := ⟨a, e, h⟩
theorem Ok.bind {r : Res α} {f : α → Res β} {P : α → Prop} {Q : β → Prop} (h : Ok r P) (k : ∀ a, P a → Ok (f a) Q) : Ok (r.bind f) Q := by
  obtain ⟨a, rfl, h⟩ := h
  exact k a h
theorem Ok.imp {r : Res α} {P Q : α → Prop} (h : Ok r P) (k : ∀ a, P a → Q a) : Ok r Q := by
  obtain ⟨a, e, h⟩ := h
  exact ⟨a, e, k a h⟩
theorem Ok.ite {c : Prop} [Decidable c] {a b : Res α} {P : α → Prop} (h : c → Ok a P) (k : ¬ c → Ok b P) : Ok (if c then a else b) P := by
  by_cases q : c
  · rw [if_pos q]; exact h q
  · rw [if_neg q]; exact k q
theorem Ok.eq {r : Res α} {a : α} (h : Ok r fun x => x = a) : r = .ok a := by obtain ⟨b, e, rfl⟩ := h; exact e
theorem Ok.get {r : Res α} {P : α → Prop} (h : Ok r P) : ∃ a, r = .ok a ∧ P a := h
/-! numbers -/
theorem Sm.abs {n : Nat} {i : Int} (h : -((2 ^ n : Nat) : Int) < i) (k : i < ((2 ^ n : Nat) : Int)) : Sm n i := by unfold Sm; omega
theorem Sm.lit {i : Int} (n : Nat) (h : i.natAbs < 2 ^ n) : Sm n i := h
theorem sm64 {i : Int} (h : -1000000000000000000 ≤ i) (k : i ≤ 1000000000000000000) : Sm 64 i := by
  have e : (2 : Nat) ^ 64 = 18446744073709551616 := by decide
  show i.natAbs < 2 ^ 64
  omega
theorem mulR_s {i j : Int} (h : -1000000000000000000 ≤ i) (k : i ≤ 1000000000000000000) (h' : -1000000000000000000 ≤ j) (k' : j ≤ 1000000000000000000) : mulR i j = .ok (i * j) := mulR_ok (sm64 h k) (sm64 h' k') (by decide)
theorem mulR_r {n : Nat} {i j : Int} (h : Sm n j) (hn : n ≤ 100000000) (h' : -1000000000000000000 ≤ i) (k' : i ≤ 1000000000000000000) : mulR i j = .ok (i * j) := mulR_ok (sm64 h' k') h (by unfold big; omega)
theorem Sm.sum : ∀ {l : List Int} {n : Nat}, (∀ z ∈ l, Sm n z) → l.length ≤ 64 → Sm (n + 6) l.sum := by
  have gen : ∀ (l : List Int) (n : Nat), (∀ z ∈ l, Sm n z) → l.sum.natAbs ≤ l.length * 2 ^ n := by
    intro l n
    induction l with
    | nil => intro _; exact Nat.zero_le _
    | cons z l ih =>
      intro h
      have a := ih fun y hy => h y (List.mem_cons_of_mem _ hy)
      have b : z.natAbs < 2 ^ n := h z List.mem_cons_self
      rw [List.sum_cons, List.length_cons, Nat.succ_mul]
      omega
  intro l n h hl
  by_cases hz : l = []
  · subst hz; show (0 : Int).natAbs < _; exact Nat.two_pow_pos _
  have a := gen l n h
  by_cases h63 : l.length ≤ 63
  · show l.sum.natAbs < 2 ^ (n + 6)
    rw [Nat.pow_add]
    have : l.length * 2 ^ n ≤ 63 * 2 ^ n := Nat.mul_le_mul_right _ h63
    have := Nat.two_pow_pos n
    omega
  · show l.sum.natAbs < 2 ^ (n + 6)
    have strict : ∀ (l : List Int), l ≠ [] → (∀ z ∈ l, Sm n z) → l.sum.natAbs < l.length * 2 ^ n := by
      intro l
      induction l with
      | nil => intro h; exact absurd rfl h
      | cons z l ih =>
        intro _ h
        have b : z.natAbs < 2 ^ n := h z List.mem_cons_self
        have a := gen l n fun y hy => h y (List.mem_cons_of_mem _ hy)
        rw [List.sum_cons, List.length_cons, Nat.succ_mul]
        omega
    have := strict l hz h
    rw [Nat.pow_add]
    have : l.length * 2 ^ n ≤ 64 * 2 ^ n := Nat.mul_le_mul_right _ hl
    omega
/-! lists -/
theorem fits_of {n : Nat} (h : n ≤ 10000000) : Fits n := by unfold Fits; rw [PySem.sizeLine_eq]; omega
theorem Ok.getL {l : List α} {i : Int} {P : α → Prop} (h : -(l.length : Int) ≤ i) (k : i < l.length) (q : ∀ a ∈ l, P a) : Ok (getL l i) P := by
  obtain ⟨a, m, e⟩ := getL_mem h k
  exact ⟨a, e, q a m⟩
theorem Ok.catR {a b : List α} {P : List α → Prop} (h : a.length + b.length ≤ 10000000) (q : P (a ++ b)) : Ok (catR a b) P := ⟨_, catR_ok h, q⟩
theorem rangeI_nat (n : Nat) : rangeI 0 (n : Int) = (List.range n).map fun (i : Nat) => (i : Int) := by
  unfold rangeI
  simp
theorem rangeI_len (m n : Int) : (rangeI m n).length = (n - m).toNat := by unfold rangeI; simp
theorem rangeI_mem {m n i : Int} : i ∈ rangeI m n ↔ m ≤ i ∧ i < n := by
  unfold rangeI
  simp only [List.mem_map, List.mem_range]
  constructor
  · rintro ⟨k, h1, h2⟩; omega
  · intro h; exact ⟨(i - m).toNat, by omega, by omega⟩
/-- each item by itself -/
theorem Ok.mapR {f : α → Res β} {P : α → β → Prop} : ∀ {l : List α}, (∀ a ∈ l, Ok (f a) (P a)) → Ok (mapR l f) fun bs => A2 P l bs
  | [], _ => ⟨[], rfl, rfl⟩
  | a :: l, h => by
    obtain ⟨b, e, hb⟩ := h a List.mem_cons_self
    obtain ⟨bs, e', hbs⟩ := Ok.mapR (l := l) fun x hx => h x (List.mem_cons_of_mem _ hx)
    exact ⟨b :: bs, by unfold DL.mapR; rw [e, e']; rfl, b, bs, rfl, hb, hbs⟩
theorem Ok.compR {f : α → Res β} {P : α → β → Prop} {Q : List β → Prop} {l : List α} (hl : l.length ≤ 10000000) (h : ∀ a ∈ l, Ok (f a) (P a)) (q : ∀ bs, A2 P l bs → Q bs) : Ok (compR l f) Q := by
  obtain ⟨bs, e, hb⟩ := Ok.mapR h
  refine ⟨bs, ?_, q bs hb⟩
  unfold DL.compR
  rw [if_pos (fits_of hl), e]
  rfl
theorem mapR_fn {f : α → Res β} {g : α → β} : ∀ {l : List α}, (∀ a ∈ l, f a = .ok (g a)) → DL.mapR l f = .ok (l.map g)
  | [], _ => rfl
  | a :: l, h => by unfold DL.mapR; rw [h a List.mem_cons_self, mapR_fn fun x hx => h x (List.mem_cons_of_mem _ hx)]; rfl
theorem compR_fn {f : α → Res β} {g : α → β} {l : List α} (hl : l.length ≤ 10000000) (h : ∀ a ∈ l, f a = .ok (g a)) : DL.compR l f = .ok (l.map g) := by
  unfold DL.compR
  rw [if_pos (fits_of hl), mapR_fn h]
  rfl
/-- a loop with an invariant over the items done -/
theorem Ok.forR {f : α → S → Res S} {l : List α} {s : S} (I : List α → S → Prop) (h0 : I [] s) (h : ∀ d a r s, l = d ++ a :: r → I d s → Ok (f a s) (I (d ++ [a]))) : Ok (forR l s f) (I l) := by
  have gen : ∀ (r d : List α) (s : S), l = d ++ r → I d s → Ok (DL.forR r s f) (I l) := by
    intro r
    induction r with
    | nil => intro d s e hI; rw [e, List.append_nil]; exact ⟨s, rfl, hI⟩
    | cons a r ih =>
      intro d s e hI
      unfold DL.forR
      exact (h d a r s e hI).bind fun s' hs' => ih (d ++ [a]) s' (by rw [e, List.append_assoc]; rfl) hs'
  exact gen l [] s rfl h0
theorem forX_unit {f : α → Unit → Res (Oc Unit R)} {l : List α} (h : ∀ a ∈ l, f a () = .ok (.nx ())) : forX l () f = .ok (.nx ()) := by
  induction l with
  | nil => rfl
  | cons a l ih => unfold DL.forX; rw [h a List.mem_cons_self]; exact ih fun x hx => h x (List.mem_cons_of_mem _ hx)
@[simp] theorem thenX_nx {T : Type} (s : S) (m : R → T) (k : S → Res T) : thenX (.ok (.nx s)) m k = k s := Eq.trans rfl rfl
@[simp] theorem thenX_rt {T : Type} (v : R) (m : R → T) (k : S → Res T) : thenX (.ok (.rt v) : Res (Oc S R)) m k = .ok (m v) := Eq.trans rfl rfl
theorem Ok.thenX {T : Type} {r : Res (Oc S R)} {m : R → T} {k : S → Res T} {P : S → Prop} {Q : T → Prop} (h : Ok r fun o => ∃ s', o = .nx s' ∧ P s') (q : ∀ s, P s → Ok (k s) Q) : Ok (DL.thenX r m k) Q := by
  obtain ⟨_, rfl, s, rfl, hs⟩ := h
  exact q s hs
theorem sortKR_ok {l : List (List Int)} (h : l.length ≤ 10000000) : sortKR l = .ok (sortK l) := if_pos (fits_of h)
/-! while -/
end
end DL
namespace DL
end DL
namespace DL
end DL

/-! Typed readings: sets of lists, max with a default. -/
namespace DL
open PySem PySem.Spec PyProof.Rows L2
section
variable {α : Type}
/-! slices whose bounds may fail -/
end
end DL

/-! readings: a tuple times a number; more ways -/
namespace DL
open PySem PySem.Spec PyProof.Rows L2
section
variable {α : Type}
end
end DL

/-! readings: a list handed on and given back -/
namespace DL
open PySem PySem.Spec PyProof.Rows L2
section
variable {α β R S T : Type} {ρ : KEnv} {c : DL.Env → Out}
end
end DL
namespace DL
open PySem PySem.Spec PyProof.Rows L2
section
end
end DL

/-! readings: values of dicts -/
namespace DL
open PySem PySem.Spec PyProof.Rows L2
section
end
end DL

/-! readings: lists of ranges, sorted texts, a tuple's index -/
namespace DL
open PySem PySem.Spec PyProof.Rows L2
section
variable {α β : Type} {ρ : KEnv} {f g : DL.Env → Res D}
end
end DL

/-! readings: dicts that are walked -/
namespace DL
open PySem PySem.Spec PyProof.Rows L2
section
variable {α β : Type} {ρ : KEnv} {g : DL.Env → Res D} {b : Bool} {f : α → D} {Ek : RE α} {E : RE β} {r : Res (List (α × β))}
end
end DL

/-! shares that may be a module's constants -/
namespace DL
open PySem PySem.Spec PyProof.Rows L2
end DL

/-! a module's constant dict with text keys and whole numbers: x in T, T[x] -/
namespace DL
open PySem PySem.Spec PyProof.Rows L2
structure DctOk (K : PySem.W.Frag) (w : World) (mg : Str → Option Value) (x : String) (tab : List (Str × Int)) : Prop where
  ok : ∃ (d : Addr) (es : Array DictEntry) (n : Nat), mg (Str.ofString x) = some (.ref d) ∧ KDict K w d es n ∧ ∀ z, match getG tab z with
    | some i => ∃ t, PySem.W.nsIn K d z = some (some (.int i t))
    | none => PySem.W.nsIn K d z = some none
section
variable {X : Cx} {W : WX} {A : Nat → Prop} {a : Expr} {pos p : Pos} {x : String} {tab : List (Str × Int)} {f : DL.Env → Res D}
end
end DL

/-! readings: texts in order, and more -/
namespace DL
open PySem PySem.Spec PyProof.Rows L2
section
end
end DL
namespace DL
/-- a loop that may give back before its end -/
theorem Ok.forX {α S R : Type} {f : α → S → Res (Oc S R)} {l : List α} {s : S} (I : List α → S → Prop) (Q : R → Prop) (h0 : I [] s) (h : ∀ d a r s, l = d ++ a :: r → I d s → Ok (f a s) fun o => match o with | .nx s' => I (d ++ [a]) s' | .rt v => Q v | .bk _ => False) :
    Ok (forX l s f) fun o => match o with | .nx s' => I l s' | .rt v => Q v | .bk _ => False := by
  have gen : ∀ (r d : List α) (s : S), l = d ++ r → I d s → Ok (DL.forX r s f) fun o => match o with | .nx s' => I l s' | .rt v => Q v | .bk _ => False := by
    intro r
    induction r with
    | nil => intro d s e hI; rw [e, List.append_nil]; exact ⟨_, rfl, hI⟩
    | cons a r ih =>
      intro d s e hI
      unfold DL.forX
      obtain ⟨o, eo, ho⟩ := h d a r s e hI
      rw [eo, Res.bind_ok]
      cases o with
      | nx s' => exact ih (d ++ [a]) s' (by rw [e, List.append_assoc]; rfl) ho
      | rt v => exact ⟨_, rfl, ho⟩
      | bk s' => exact ho.elim
  exact gen l [] s rfl h0
end DL

/-! readings: insert, try, what is a list or a tuple -/
namespace DL
open PySem PySem.Spec PyProof.Rows L2
section
variable {α β T S R : Type} {ρ ρ' ρx : KEnv} {a b c : DL.Env → Out}
open Classical in
noncomputable def insR {α : Type} (l : List α) (i : Int) (a : α) : Res (List α) := if 0 ≤ i ∧ i < 1000000 ∧ l.length < sizeLine then .ok (l.take i.toNat ++ [a] ++ l.drop i.toNat) else .bad
theorem insR_nx (l : List α) (i : Int) (a : α) (c : String) (fs : List (D × D)) : insR l i a ≠ .exc c fs := by unfold insR; split <;> simp
theorem vq_2 {E : RE α} {E' : RE β} {f g : DL.Env → Res D} {r : Res α} {r' : Res β} (h : EvR ρ f r E) (k : EvR ρ g r' E') : EvR ρ (aCons f (aCons g aNil)) (r.bind fun x => r'.bind fun y => .ok (x, y)) (qC E (q1 E')) := vq_c h (vq_1 k)
theorem d_ins {al : List Nat} {i : Nat} {fi f : DL.Env → Res D} {E : RE α} {l : List α} {ri : Res Int} {r : Res α} (hf : (fzK al ρ)[i]? = some (some (ow (eL E) l))) (hi : EvR ρ fi ri eI) (h : EvR ρ f r E) :
    J ρ (sMut al i gInsert (aCons fi (aCons f aNil))) ((ri.bind fun x => r.bind fun y => .ok (x, y)).bind fun p => insR l p.1 p.2) (PN fun l' => (fzK al ρ).set i (some (ow (eL E) l'))) :=
  sMut_J hf (vq_2 hi h) (fun ds b es l' h1 h2 h3 => by
    obtain ⟨d, _, rfl, hd, d', rfl, hd'⟩ := h2
    unfold insR at h3
    split at h3
    · rename_i hl
      cases h3
      rw [show d = .int b.1 from hd]
      refine ⟨ds.take b.1.toNat ++ [d'] ++ ds.drop b.1.toNat, ?_, (A2.append (A2.take _ h1) (A2.cons hd' A2.nil)).append (A2.drop _ h1)⟩
      unfold gInsert
      dsimp only
      rw [if_pos (by rw [h1.length]; exact hl)]
    · cases h3) (fun b => insR_nx l _ _)
/-! ### try -/
/-- a block that may raise; what is known then -/
def JT {T : Type} (ρ ρx : KEnv) (b : DL.Env → Out) (r : Res T) (P : T → Out → Prop) : Prop := ∀ e, Le ρ e → match r with
  | .ok t => P t (b e)
  | .exc c fs => ∃ e', b e = .ex c fs e' ∧ Le ρx e'
  | .bad => True
theorem t_set {al : List Nat} {i : Nat} {f : DL.Env → Res D} {E : RE α} {x : Res α} (s : Sb ρx (fzK al ρ)) (h : EvR ρ f x E) : JT ρ ρx (sSet al i f) x (PN fun v => (fzK al ρ).set i (some (sh E v))) := fun e l => by
  have := h e l
  cases x with
  | ok v => obtain ⟨d, h1, h2⟩ := this; exact ⟨_, by rw [sSet_app, h1], (l.fz al).set i ⟨h2, rfl⟩⟩
  | exc cc fs => exact ⟨_, by rw [sSet_app, show f e = _ from this], (l.fz al).less s⟩
  | bad => trivial
theorem t_end {ρs : S → KEnv} {s : S} (h : Sb (ρs s) ρ) : JT ρ ρx sSkip (.ok s) (PN ρs) := fun e l => ⟨e, rfl, l.less h⟩
theorem t_do {s : Res S} {ρs : S → KEnv} {k : S → Res T} {P : T → Out → Prop} (h : JT ρ ρx a s (PN ρs)) (q : ∀ x, JT (ρs x) ρx b (k x) P) : JT ρ ρx (sSeq a b) (s.bind k) P := fun e l => by
  have := h e l
  cases s with
  | ok x =>
    obtain ⟨e', h1, h2⟩ := this
    have : sSeq a b e = b e' := by unfold sSeq; rw [h1]
    rw [this]
    exact q x e' h2
  | exc cc fs => obtain ⟨e', h1, h2⟩ := this; exact ⟨e', by unfold sSeq; rw [h1], h2⟩
  | bad => trivial
theorem t_skip {r : Res T} {P : T → Out → Prop} (h : JT ρ ρx b r P) : JT ρ ρx (sSeq sSkip b) r P := fun e l => h e l
theorem t_assoc {r : Res T} {P : T → Out → Prop} (h : JT ρ ρx (sSeq a (sSeq b c)) r P) : JT ρ ρx (sSeq (sSeq a b) c) r P := fun e l => by
  have : sSeq (sSeq a b) c e = sSeq a (sSeq b c) e := by unfold sSeq; cases a e <;> rfl
  rw [this]
  exact h e l
theorem t_if {ft : DL.Env → Res Bool} {rt : Res Bool} {ra rb : Res T} {P : T → Out → Prop} (s : Sb ρx ρ) (hc : EvR ρ ft rt Tr) (ha : JT ρ ρx a ra P) (hb : JT ρ ρx b rb P) : JT ρ ρx (sIf [] ft a b) (rt.bind fun z => if z = true then ra else rb) P := fun e l => by
  have := hc e l
  cases rt with
  | ok z =>
    obtain ⟨y, h1, h2⟩ := this
    have q : sIf [] ft a b e = if y = true then a (fz [] e) else b (fz [] e) := by rw [sIf_app, h1]
    rw [q, show y = z from h2, fz_nil]
    cases z
    · exact hb _ l
    · exact ha _ l
  | exc cc fs => exact ⟨e, by rw [sIf_app, show ft e = _ from this, fz_nil], l.less s⟩
  | bad => trivial
theorem t_ifs {ft : DL.Env → Res Bool} {rt : Res Bool} {ra rb : Res T} {P : T → Out → Prop} (s : Sb ρx ρ) (hc : EvR ρ ft rt Tr) (ha : JT ρ ρx (sSeq a c) ra P) (hb : JT ρ ρx (sSeq b c) rb P) : JT ρ ρx (sSeq (sIf [] ft a b) c) (rt.bind fun z => if z = true then ra else rb) P := by
  rw [seq_if]; exact t_if s hc ha hb
/-- a handler that names the error: the same whatever its address -/
def UH {T : Type} (i : Nat) (ρ : KEnv) (fs : Addr → DL.Env → Out) (r : Res T) (P : T → KEnv) : Prop := ∀ e, Le ρ e → match r with
  | .ok t => ∃ e', (∀ a, clrN i (fs a (e.set i (some (.obj (.ref a), false)))) = .nx e') ∧ Le (P t) e'
  | _ => True
/-! ### a list or a tuple -/
/-! ### less known of what was handed on -/
def Lw : KEnv → KEnv → Prop := A2 fun r x => ∀ P, r = some P → ∃ P', x = some P' ∧ ∀ d o, P' d o → P d o
theorem Lw.nil : Lw [] [] := rfl
theorem Lw.same {r : Option Kn} {a b : KEnv} (s : Lw a b) : Lw (r :: a) (r :: b) := ⟨_, _, rfl, fun P h => ⟨P, h, fun _ _ h => h⟩, s⟩
theorem Lw.fr {E : RE α} {x : α} {a b : KEnv} (s : Lw a b) : Lw (some (sh E x) :: a) (some (frK (ow E x)) :: b) := ⟨_, _, rfl, fun P h => ⟨_, rfl, fun d o ⟨h1, _, h2, _⟩ => by cases h; exact ⟨h2, h1⟩⟩, s⟩
theorem Lw.fs {E : RE α} {x : α} {a b : KEnv} (s : Lw a b) : Lw (some (sh E x) :: a) (some (frK (sh E x)) :: b) := ⟨_, _, rfl, fun P h => ⟨_, rfl, fun d o ⟨h1, _, h2, _⟩ => by cases h; exact ⟨h2, h1⟩⟩, s⟩
end
section
variable {α β : Type}
/-! ### equality where texts stand in tuples -/
structure EqG {α : Type} [DecidableEq α] (E : RE α) (ok : α → Bool) (n : Nat) : Prop where
  pl : ∀ a d, ok a = true → E a d → d.pl n = true
  beq : ∀ a b x y, E a x → E b y → PyData.eqv x.py y.py = decide (a = b)
structure EqGQ {α : Type} [DecidableEq α] (Q : α → List D → Prop) (ok : α → Bool) (n : Nat) : Prop where
  pl : ∀ a d, ok a = true → Q a d → D.pls d n = true
  beq : ∀ a b x y, Q a x → Q b y → PyData.eqvAll (D.pys x) (D.pys y) = decide (a = b)
theorem EqG.of [DecidableEq α] {E : RE α} {n : Nat} (h : EqE E n) : EqG E (fun _ => true) n := ⟨fun a d _ r => h.pl a d r, h.beq⟩
theorem EqG.str (n : Nat) : EqG eS PyData.strOk n := ⟨by rintro a _ h rfl; exact h, by
  rintro a b _ _ rfl rfl
  simp [D.py, PyData.eqv]
  exact Bool.eq_iff_iff.mpr (by simp)⟩
theorem EqGQ.one [DecidableEq α] {E : RE α} {n : Nat} {ok : α → Bool} (h : EqG E ok n) : EqGQ (q1 E) ok n := ⟨by
  rintro a _ k ⟨d, rfl, hd⟩
  simp [D.pls, h.pl a d k hd], by
  rintro a b _ _ ⟨d, rfl, hd⟩ ⟨d', rfl, hd'⟩
  simp only [D.pys, PyData.eqvAll, h.beq a b d d' hd hd', Bool.and_true]⟩
theorem EqGQ.c [DecidableEq α] [DecidableEq β] {E : RE α} {Q : β → List D → Prop} {n : Nat} {ok : α → Bool} {ok' : β → Bool} (h : EqG E ok n) (k : EqGQ Q ok' n) : EqGQ (qC E Q) (fun p => ok p.1 && ok' p.2) n := ⟨by
  rintro ⟨a, b⟩ _ o ⟨d, r, rfl, hd, hr⟩
  simp only [Bool.and_eq_true] at o
  simp [D.pls, h.pl a d o.1 hd, k.pl b r o.2 hr], by
  rintro ⟨a, b⟩ ⟨a', b'⟩ _ _ ⟨d, r, rfl, hd, hr⟩ ⟨d', r', rfl, hd', hr'⟩
  simp only [D.pys, PyData.eqvAll, h.beq _ _ d d' hd hd', k.beq _ _ r r' hr hr']
  by_cases h1 : a = a' <;> by_cases h2 : b = b' <;> simp [h1, h2]⟩
/-! ### dicts with row keys compared -/
end
end DL

/-! readings: defs that are lent lists and dicts -/
namespace DL
open PySem PySem.Spec PyProof.Rows L2
section
variable {α β R S T C C' : Type} {ρ ρ' : KEnv} {c : DL.Env → Out}
/-- the names at its start -/
def LeAM (bs : List Nat) (k : Nat) (ds : List D) (ρ : KEnv) : Prop := Le ρ (envMa bs k ds)
theorem LeAM.nil {bs : List Nat} {k : Nat} : LeAM bs k [] [] := rfl
theorem LeAM.sh {bs : List Nat} {k : Nat} {E : RE α} {x : α} {d : D} {ds : List D} (h : E x d) (hb : bs.elem k = false) (t : LeAM bs (k + 1) ds ρ) : LeAM bs k (d :: ds) (some (sh E x) :: ρ) := ⟨some (d, bs.elem k), _, rfl, fun P hP => ⟨d, _, rfl, by cases hP; exact ⟨h, hb⟩⟩, t⟩
theorem LeAM.ow {bs : List Nat} {k : Nat} {E : RE α} {x : α} {d : D} {ds : List D} (h : E x d) (hb : bs.elem k = true) (t : LeAM bs (k + 1) ds ρ) : LeAM bs k (d :: ds) (some (DL.ow E x) :: ρ) := ⟨some (d, bs.elem k), _, rfl, fun P hP => ⟨d, _, rfl, by cases hP; exact ⟨h, hb⟩⟩, t⟩
/-! ### calls -/
inductive KM where
  | v
  | o (i : Nat)
  | n
variable {al : List Nat}
end
end DL
namespace DL
open PySem PySem.Spec PyProof.Rows L2
end DL

/-! readings: loops of a def that is lent lists and dicts, with returns in them -/
namespace DL
open PySem PySem.Spec PyProof.Rows L2
section
variable {α β R S T C : Type} {ρ ρ' : KEnv} {a b c : DL.Env → Out} {P : T → Out → Prop}
end
end DL
namespace DL
open PySem PySem.Spec PyProof.Rows L2
end DL
namespace DL
open PySem PySem.Spec PyProof.Rows L2
end DL

/-! readings: what a lent def tells is given on, taken apart, or stands in a pair -/
namespace DL
open PySem PySem.Spec PyProof.Rows L2
section
variable {α β γ R S T C C' : Type} {ρ ρ' : KEnv} {c : DL.Env → Out} {al : List Nat}
end
end DL
namespace DL
open PySem PySem.Spec PyProof.Rows L2
/-! ### places in texts -/
noncomputable def ixS (x : Str) (i : Int) : Res Str := if x.length ≤ sizeLine then (match atI x.cps.toList i with
  | some c => .ok ⟨#[c]⟩
  | none => .bad) else .bad
noncomputable def cutSR (x : Str) (lo hi : Option Int) : Res Str := if x.length ≤ sizeLine then .ok (cutS x lo hi) else .bad
theorem o_ixS (a : Str) (i : Int) : ∀ x y, eS a x → eI i y → Rf (dIx x y) (ixS a i) eS := by
  rintro _ _ rfl rfl
  unfold ixS
  by_cases h : a.length ≤ sizeLine
  · rw [if_pos h]
    cases q : atI a.cps.toList i with
    | none => trivial
    | some c => refine ⟨_, ?_, rfl⟩; show (if a.length ≤ sizeLine then (match atI a.cps.toList i with | some c => Res.ok (D.str ⟨#[c]⟩) | none => .bad) else .bad) = _; rw [if_pos h, q]
  · rw [if_neg h]; trivial
theorem cut_S (a : Str) (d : D) (lo hi : Option Int) (h : eS a d) : Rf (dCut lo hi d) (cutSR a lo hi) eS := by
  rw [show d = _ from h]
  unfold cutSR
  by_cases h : a.length ≤ sizeLine
  · rw [if_pos h]; exact ⟨_, if_pos h, rfl⟩
  · rw [if_neg h]; trivial
theorem v_cutG {α : Type} {ρ : KEnv} {f : DL.Env → Res D} {fl fh : DL.Env → Res (Option Int)} {E : RE α} {g : α → Option Int → Option Int → Res α} {r : Res α} {rl rh : Res (Option Int)} (hE : ∀ a d lo hi, E a d → Rf (dCut lo hi d) (g a lo hi) E) (h : EvR ρ f r E) (hl : EvR ρ fl rl Eqv) (hh : EvR ρ fh rh Eqv) :
    EvR ρ (eCut f fl fh) (r.bind fun l => rl.bind fun lo => rh.bind fun hi => g l lo hi) E := fun e le => by
  rw [eCut_app]
  refine (h e le).bind fun a d hd => (hl e le).bind fun lo lo' hlo => (hh e le).bind fun hi hi' hhi => ?_
  rw [show lo' = lo from hlo, show hi' = hi from hhi]
  exact hE a d lo hi hd
end DL
namespace DL
end DL
namespace DL
section
variable {α : Type} {ρ : KEnv} {E : RE α} {f : α → D} {g : DL.Env → Res D}
theorem v_castF {a : α} (p : Fun E f) (h : EvR ρ g (.ok a) E) : EvR ρ g (.ok (f a)) eD := v_cast h fun _ h => (p _ _).mp h
end
end DL
namespace DL
end DL

/-! readings: x.update(e); statements never reached -/
namespace DL
open PySem PySem.Spec PyProof.Rows L2
section
variable {α β T : Type} {ρ : KEnv} {c : DL.Env → Out}
variable [DecidableEq α] {f : α → D} {E : RE β}
end
section
variable {ρ : KEnv} {f : DL.Env → Res D}
def signsT (x : Str) : List Str := x.cps.toList.map fun c => (⟨#[c]⟩ : Str)
theorem v_seqS {r : Res Str} (h : EvR ρ f r eS) : EvR ρ (iStrD f) (r.bind fun x => .ok (signsT x)) (A2 eS) := fun e l => by
  have := h e l
  unfold iStrD
  cases r with
  | ok x =>
    obtain ⟨d, e1, e2⟩ := this
    rw [e1, show d = .str x from e2]
    exact ⟨_, rfl, A2.fn.mpr (by unfold signs signsT; rw [List.map_map]; rfl)⟩
  | exc c fs => rw [show f e = _ from this]; rfl
  | bad => trivial
theorem v_seqSp {x : Str} (h : EvR ρ f (.ok x) eS) : EvR ρ (iStrD f) (.ok (signsT x)) (A2 eS) := v_seqS h
/-- in a text -/
theorem o_inSS (no : Bool) (a b : Str) : ∀ x y, eS a x → eS b y → Rf (dInA no x y) (.ok (strIn a b != no)) eB := by
  rintro _ _ rfl rfl
  exact ⟨_, rfl, rfl⟩
end
section
variable {α : Type} {E : RE α} {x : α} {a b : KEnv}
end
section
variable {ρ : KEnv} {f : DL.Env → Res D}
end
end DL

/-! readings: tuples known to have no dict of their own -/
namespace DL
open PySem PySem.Spec PyProof.Rows L2
section
variable {α β γ T : Type} {ρ : KEnv} {f : DL.Env → Res D} {fl fh : DL.Env → Res (Option Int)} {fs : DL.Env → Res (List D)}
def ePT {α : Type} (E : RE α) : RE (List α) := fun l d => ∃ ds, d = .con ds ∧ A2 E l ds
def fPT {α : Type} (f : α → D) : List α → D := fun l => .con (l.map f)
theorem Fun.pt {E : RE α} {f : α → D} (h : Fun E f) : Fun (ePT E) (fPT f) := fun a d =>
  ⟨fun ⟨ds, e, r⟩ => by rw [e, (a2_fun h a ds).mp r]; rfl, fun e => ⟨_, e, (a2_fun h a _).mpr rfl⟩⟩
theorem EqE.pt [DecidableEq α] {E : RE α} {n : Nat} (h : EqE E n) : EqE (ePT E) (n + 1) := ⟨by
  rintro a _ ⟨ds, rfl, r⟩; exact a2_pls h r, by
  rintro a b _ _ ⟨ds, rfl, r⟩ ⟨es, rfl, s⟩
  rw [D.py, D.py, PyData.eqv]; exact a2_eqvs h r s⟩
/-! a list, a tuple or a plain tuple -/
/-! remove of rows -/
/-! methods -/
/-! dict(t) -/
end
end DL

/-! readings: defs that give back a new list -/
namespace DL
open PySem PySem.Spec PyProof.Rows L2
section
variable {α β R S T : Type} {ρ : KEnv} {c : DL.Env → Out}
end
end DL

/-! readings: texts of numbers, put together and taken apart -/
namespace DL
open PySem PySem.Spec PyProof.Rows L2
section
variable {α β R S T : Type} {ρ : KEnv} {f g : DL.Env → Res D}
def strR (i : Int) : Res Str := if i.natAbs.log2 < 1920 then .ok (toString i) else .bad
theorem strR_ok {i : Int} (h : i.natAbs.log2 < 1920) : strR i = .ok (toString i) := if_pos h
theorem o_strI (i : Int) : ∀ x, eI i x → Rf (dStrI x) (strR i) eS := by
  rintro _ rfl
  unfold strR dStrI
  by_cases h : i.natAbs.log2 < 1920
  · rw [if_pos h]; dsimp only; rw [if_pos h]; exact ⟨_, rfl, rfl⟩
  · rw [if_neg h]; trivial
def intTR (a : Str) : Res Int := match PySem.intText? a with
  | some n => if a.length ≤ 640 then .ok n else .bad
  | none => .bad
theorem intTR_ok {a : Str} {n : Int} (h : PySem.intText? a = some n) (k : a.length ≤ 640) : intTR a = .ok n := by unfold intTR; rw [h]; exact if_pos k
theorem o_intT (a : Str) : ∀ x, eS a x → Rf (dIntT x) (intTR a) eI := by
  rintro _ rfl
  unfold intTR dIntT
  dsimp only
  cases PySem.intText? a with
  | none => trivial
  | some n =>
    dsimp only
    by_cases h : a.length ≤ 640
    · rw [if_pos h, if_pos h]; exact ⟨_, rfl, rfl⟩
    · rw [if_neg h, if_neg h]; trivial
open Classical in
noncomputable def joinR (x : Str) (ys : List Str) : Res Str := if (ys.map (·.length)).sum + ys.length * x.length ≤ 16777216 then .ok (Txt.join x ys) else .bad
theorem joinR_ok {x : Str} {ys : List Str} (h : (ys.map (·.length)).sum + ys.length * x.length ≤ 16777216) : joinR x ys = .ok (Txt.join x ys) := if_pos h
theorem v_join {r : Res Str} {s : Res (List Str)} (h : EvR ρ f r eS) (k : EvR ρ g s (Sq eS)) : EvR ρ (eJoin f g) (r.bind fun a => s.bind fun l => joinR a l) eS := fun e l => by
  unfold eJoin
  refine (h e l).bind fun a d hd => ?_
  rw [show d = .str a from hd]
  dsimp only
  refine (k e l).bind fun ys d2 ⟨ds, h1, h2⟩ => ?_
  unfold dJoin
  dsimp only
  rw [h1]
  dsimp only
  rw [show ds = ys.map D.str from A2.fn.mp h2, strs_map]
  dsimp only
  unfold joinR
  by_cases z : (ys.map (·.length)).sum + ys.length * a.length ≤ 16777216
  · rw [if_pos z, if_pos z]; exact ⟨_, rfl, rfl⟩
  · rw [if_neg z, if_neg z]; trivial
def splitR (x y : Str) : Res (List Str) := if (y.length == 0) = false ∧ x.length + 2 ≤ sizeLine then .ok (Txt.split x y) else .bad
theorem splitR_ok {x y : Str} (h : (y.length == 0) = false) (k : x.length ≤ 10000000) : splitR x y = .ok (Txt.split x y) := if_pos ⟨h, by rw [PySem.sizeLine_eq]; omega⟩
theorem v_split {r s : Res Str} (h : EvR ρ f r eS) (k : EvR ρ g s eS) : EvR ρ (eSplit f g) (r.bind fun a => s.bind fun b => splitR a b) (eL eS) := fun e l => by
  unfold eSplit
  refine (h e l).bind fun a d hd => ?_
  rw [show d = .str a from hd]
  dsimp only
  refine (k e l).bind fun b d2 hd2 => ?_
  rw [show d2 = .str b from hd2]
  unfold dSplit splitR
  dsimp only
  by_cases z : (b.length == 0) = false ∧ a.length + 2 ≤ sizeLine
  · rw [if_pos z, if_pos z]; exact ⟨_, rfl, _, rfl, A2.fn.mpr rfl⟩
  · rw [if_neg z, if_neg z]; trivial
/-! f-strings -/
/-! the sum of a dict's values -/
end
end DL

/-! readings: several except clauses -/
namespace DL
open PySem PySem.Spec PyProof.Rows L2
section
variable {α β R S T : Type} {ρ ρx : KEnv} {a : DL.Env → Out}
inductive HUL {S : Type} (ρx : KEnv) (ρs : S → KEnv) : List Hdl → List ((String → Option Bool) × (String → Res S)) → Prop
  | nil : HUL ρx ρs [] []
  | cons {i : Nat} {h : String → Option Bool} {fs : Addr → String → DL.Env → Out} {k : String → Res S} {l : List Hdl} {kl : List ((String → Option Bool) × (String → Res S))} (u : ∀ c, UH i ρx (fun ad => fs ad c) (k c) ρs) (r : HUL ρx ρs l kl) : HUL ρx ρs ((i, h, fs) :: l) ((h, k) :: kl)
/-! l.index(row) of a list of rows -/
end
end DL

/-! readings: a loop over a list of one's own that is kept one's own -/
namespace DL
open PySem PySem.Spec PyProof.Rows L2
/-- the data are told by the reading alone -/
class FnE {α : Type} (E : RE α) : Prop where
  eq : ∀ x d d', E x d → E x d' → d = d'
theorem a2_fn {α : Type} {E : RE α} (h : ∀ x d d', E x d → E x d' → d = d') : ∀ {l : List α} {r r' : List D}, A2 E l r → A2 E l r' → r = r'
  | [], _, _, a, b => by rw [show _ = [] from a, show _ = [] from b]
  | x :: l, _, _, ⟨d, r, e, h1, t⟩, ⟨d', r', e', h1', t'⟩ => by rw [e, e', h x d d' h1 h1', a2_fn h t t']
instance : FnE eI := ⟨fun _ _ _ h k => by rw [show _ = _ from h, show _ = _ from k]⟩
instance : FnE eB := ⟨fun _ _ _ h k => by rw [show _ = _ from h, show _ = _ from k]⟩
instance : FnE eS := ⟨fun _ _ _ h k => by rw [show _ = _ from h, show _ = _ from k]⟩
instance : FnE eR := ⟨fun _ _ _ h k => by rw [show _ = _ from h, show _ = _ from k]⟩
instance : FnE eD := ⟨fun _ _ _ h k => by rw [show _ = _ from h, show _ = _ from k]⟩
instance {α : Type} {E : RE α} [FnE E] : FnE (eL E) := ⟨fun _ _ _ ⟨_, e, h⟩ ⟨_, e', h'⟩ => by rw [e, e', a2_fn FnE.eq h h']⟩
instance {α : Type} {E : RE α} [FnE E] : FnE (eT E) := ⟨fun _ _ _ ⟨_, e, h⟩ ⟨_, e', h'⟩ => by rw [e, e', a2_fn FnE.eq h h']⟩
class FnQ {α : Type} (Q : α → List D → Prop) : Prop where
  eq : ∀ x d d', Q x d → Q x d' → d = d'
instance : FnQ qN := ⟨fun _ _ _ h k => by rw [show _ = _ from h, show _ = _ from k]⟩
instance {α : Type} {E : RE α} [FnE E] : FnQ (q1 E) := ⟨fun _ _ _ ⟨_, e, h⟩ ⟨_, e', h'⟩ => by rw [e, e', FnE.eq _ _ _ h h']⟩
instance {α β : Type} {E : RE α} {Q : β → List D → Prop} [FnE E] [FnQ Q] : FnQ (qC E Q) := ⟨fun _ _ _ ⟨_, _, e, h, q⟩ ⟨_, _, e', h', q'⟩ => by rw [e, e', FnE.eq _ _ _ h h', FnQ.eq _ _ _ q q']⟩
instance {α : Type} {Q : α → List D → Prop} [FnQ Q] : FnE (eQ Q) := ⟨fun _ _ _ ⟨_, e, h⟩ ⟨_, e', h'⟩ => by rw [e, e', FnQ.eq _ _ _ h h']⟩
/-- numbers, texts, truth values and tuples of these -/
class TfE {α : Type} (E : RE α) : Prop where
  tf : ∀ x d, E x d → d.tfl = true
theorem a2_tf {α : Type} {E : RE α} (h : ∀ x d, E x d → d.tfl = true) : ∀ {l : List α} {r : List D}, A2 E l r → D.tfls r = true
  | [], _, a => by rw [show _ = [] from a]; rfl
  | x :: l, _, ⟨d, r, e, h1, t⟩ => by rw [e]; exact Bool.and_eq_true_iff.mpr ⟨h x d h1, a2_tf h t⟩
instance : TfE eI := ⟨fun _ _ h => by rw [show _ = _ from h]; rfl⟩
instance : TfE eB := ⟨fun _ _ h => by rw [show _ = _ from h]; rfl⟩
instance : TfE eS := ⟨fun _ _ h => by rw [show _ = _ from h]; rfl⟩
theorem tfls_ints : ∀ l : List Int, D.tfls (l.map D.int) = true
  | [] => rfl
  | _ :: l => Bool.and_eq_true_iff.mpr ⟨rfl, tfls_ints l⟩
instance : TfE eR := ⟨fun x _ h => by rw [show _ = _ from h]; exact tfls_ints x⟩
instance {α : Type} {E : RE α} [TfE E] : TfE (eT E) := ⟨fun _ _ ⟨_, e, h⟩ => by rw [e]; exact a2_tf TfE.tf h⟩
class TfQ {α : Type} (Q : α → List D → Prop) : Prop where
  tf : ∀ x d, Q x d → D.tfls d = true
instance : TfQ qN := ⟨fun _ _ h => by rw [show _ = _ from h]; rfl⟩
instance {α : Type} {E : RE α} [TfE E] : TfQ (q1 E) := ⟨fun _ _ ⟨_, e, h⟩ => by rw [e]; exact Bool.and_eq_true_iff.mpr ⟨TfE.tf _ _ h, rfl⟩⟩
instance {α β : Type} {E : RE α} {Q : β → List D → Prop} [TfE E] [TfQ Q] : TfQ (qC E Q) := ⟨fun _ _ ⟨_, _, e, h, q⟩ => by rw [e]; exact Bool.and_eq_true_iff.mpr ⟨TfE.tf _ _ h, TfQ.tf _ _ q⟩⟩
instance {α : Type} {Q : α → List D → Prop} [TfQ Q] : TfE (eQ Q) := ⟨fun _ _ ⟨_, e, h⟩ => by rw [e]; exact TfQ.tf _ _ h⟩
/-- the names' data are told by what is known -/
class FnKs (ρ : KEnv) : Prop where
  eq : ∀ (j : Nat) (P : Kn) (d : D) (o : Bool) (d' : D) (o' : Bool), ρ[j]? = some (some P) → P d o → P d' o' → d = d' ∧ o = o'
instance : FnKs [] := ⟨fun j P d o d' o' h => by simp at h⟩
instance {ρ : KEnv} [FnKs ρ] : FnKs (none :: ρ) := ⟨fun j P d o d' o' h => by
  cases j with
  | zero => cases h
  | succ j => exact FnKs.eq (ρ := ρ) j P d o d' o' (by simpa using h)⟩
instance {α : Type} {E : RE α} {x : α} {ρ : KEnv} [FnE E] [FnKs ρ] : FnKs (some (sh E x) :: ρ) := ⟨fun j P d o d' o' h => by
  cases j with
  | zero => cases h; exact fun ⟨a, b⟩ ⟨c, e⟩ => ⟨FnE.eq _ _ _ a c, b.trans e.symm⟩
  | succ j => exact FnKs.eq (ρ := ρ) j P d o d' o' (by simpa using h)⟩
instance {α : Type} {E : RE α} {x : α} {ρ : KEnv} [FnE E] [FnKs ρ] : FnKs (some (ow E x) :: ρ) := ⟨fun j P d o d' o' h => by
  cases j with
  | zero => cases h; exact fun ⟨a, b⟩ ⟨c, e⟩ => ⟨FnE.eq _ _ _ a c, b.trans e.symm⟩
  | succ j => exact FnKs.eq (ρ := ρ) j P d o d' o' (by simpa using h)⟩
section
variable {α β γ R S T : Type} {ρ ρ' : KEnv} {b : DL.Env → Out}
end
end DL

/-! readings: sorted(set(t)) of rows -/
namespace DL
open PySem PySem.Spec PyProof.Rows L2
end DL

/-! readings: plain tuples put together with others, sorted, made a set -/
namespace DL
open PySem PySem.Spec PyProof.Rows L2
end DL

/-! readings: errors with fields; l.pop(i); a text so many times -/
namespace DL
open PySem PySem.Spec PyProof.Rows L2
section
variable {α β R S T : Type} {ρ ρx : KEnv} {a b c : DL.Env → Out}
theorem j_raiseX1 {al : List Nat} {cn : String} {n : Str} {fs : DL.Env → Res (List D)} {r : Res (Str × D)} {P : T → Out → Prop} (h : EvR ρ fs r (qC eS (q1 eD))) :
    J ρ (sSeq (sRaiseX al cn [n] fs) c) (r.bind fun v => .exc cn [(D.str n, v.2)]) P := fun e l => by
  have := h e l
  have q : sSeq (sRaiseX al cn [n] fs) c e = match fs e with
    | .ok ds => (match (match ds with | .str _ :: r => if r.length = [n].length ∧ [n] ≠ [] then Out.ex cn (fldsD [n] r) (fz al e) else .bad | _ => .bad) with | .nx e' => c e' | r => r)
    | .exc cc xs => .ex cc xs (fz al e)
    | .bad => .bad := by
    unfold sSeq sRaiseX sE
    cases fs e <;> rfl
  cases r with
  | bad => trivial
  | exc cc xs => exact ⟨_, by rw [q, show fs e = _ from this]⟩
  | ok v =>
    obtain ⟨ds, e1, d1, _, rfl, h1, d2, rfl, h2⟩ := this
    rw [show d1 = .str v.1 from h1] at e1
    cases (show d2 = v.2 from h2)
    refine ⟨fz al e, ?_⟩
    rw [q, e1]
    simp [fldsD]
/-! ### handlers -/
/-- the errors that the handlers take, with their fields -/
def hitEX {T : Type} (c : String) (fs : List (D × D)) : List ((String → Option Bool) × (String → List (D × D) → Res T)) → Res T
  | [] => .exc c fs
  | (h, k) :: r => match h c with
    | some true => if fs = [] ∨ flat2 fs = true then (k c fs).noX else .bad
    | some false => hitEX c fs r
    | none => .bad
def hitX {T : Type} (l : List ((String → Option Bool) × (String → List (D × D) → Res T))) (r : Res T) : Res T := match r with
  | .exc c fs => hitEX c fs l
  | r => r
theorem hitX_exc (l : List ((String → Option Bool) × (String → List (D × D) → Res T))) (c : String) (fs : List (D × D)) : hitX l (.exc c fs) = hitEX c fs l := rfl
def eErrX : RE (Addr × Option Addr × List (D × D)) := fun x d => d = slotX x.1 x.2.1 x.2.2
/-- a handler: the same wherever the error lies -/
def UHX {T : Type} (i : Nat) (ρ : KEnv) (kv : List (D × D)) (fs : Addr → Option Addr → DL.Env → Out) (r : Res T) (P : T → KEnv) : Prop := ∀ e, Le ρ e → match r with
  | .ok t => ∃ e', (∀ a d, (d = none ↔ kv = []) → clrN i (fs a d (e.set i (some (slotX a d kv, false)))) = .nx e') ∧ Le (P t) e'
  | _ => True
theorem uhx_end {i : Nat} {kv : List (D × D)} {ρs : S → KEnv} {s : S} (h : Sb (ρs s) (ρ.set i none)) : UHX i ρ kv (fun _ _ => sSkip) (.ok s) ρs := fun e l => ⟨e.set i none, fun a d _ => by
  show Out.nx ((e.set i _).set i none) = _
  rw [List.set_set], (l.forget i).less h⟩
theorem uhx_set {i j : Nat} {kv : List (D × D)} {f : α → D} {E : RE α} {x : Res α} {g : Addr → Option Addr → DL.Env → Res D} {gs : Addr → Option Addr → DL.Env → Out} {q : α → Res S} {P : S → KEnv} (hij : i ≠ j) (hF : Fun E f) (hv : ∀ a d, (d = none ↔ kv = []) → EvR (ρ.set i (some (sh eErrX (a, d, kv)))) (g a d) x E)
    (k : ∀ v, UHX i (ρ.set j (some (sh E v))) kv gs (q v) P) : UHX i ρ kv (fun a d => sSeq (sSet [] j (g a d)) (gs a d)) (x.bind q) P := fun e l => by
  cases x with
  | exc _ _ => trivial
  | bad => trivial
  | ok v =>
    have := k v (e.set j (some (f v, false))) (l.set j ⟨(hF v _).mpr rfl, rfl⟩)
    show match q v with | .ok t => _ | _ => True
    cases hq : q v with
    | exc _ _ => trivial
    | bad => trivial
    | ok t =>
      rw [hq] at this
      obtain ⟨e', h1, h2⟩ := this
      refine ⟨e', fun a d hd => ?_, h2⟩
      rw [← h1 a d hd]
      obtain ⟨z, h3, h4⟩ := hv a d hd (e.set i (some (slotX a d kv, false))) (l.set i ⟨rfl, rfl⟩)
      have hd : z = f v := (hF v z).mp h4
      subst hd
      congr 1
      show sSeq (sSet [] j (g a d)) (gs a d) _ = _
      unfold sSeq
      rw [sSet_app, h3]
      dsimp only
      rw [fz_nil, List.set_comm _ _ hij]
theorem uhx_ifs {i : Nat} {kv : List (D × D)} {ft : Addr → Option Addr → DL.Env → Res Bool} {rt : Res Bool} {ga gb gc : Addr → Option Addr → DL.Env → Out} {ra rb : Res S} {P : S → KEnv} (hc : ∀ a d, (d = none ↔ kv = []) → EvR (ρ.set i (some (sh eErrX (a, d, kv)))) (ft a d) rt Tr)
    (ha : UHX i ρ kv (fun a d => sSeq (ga a d) (gc a d)) ra P) (hb : UHX i ρ kv (fun a d => sSeq (gb a d) (gc a d)) rb P) : UHX i ρ kv (fun a d => sSeq (sIf [] (ft a d) (ga a d) (gb a d)) (gc a d)) (rt.bind fun z => if z = true then ra else rb) P := fun e l => by
  cases rt with
  | exc _ _ => trivial
  | bad => trivial
  | ok z =>
    have step : ∀ a d, (d = none ↔ kv = []) → sSeq (sIf [] (ft a d) (ga a d) (gb a d)) (gc a d) (e.set i (some (slotX a d kv, false))) = if z = true then sSeq (ga a d) (gc a d) (e.set i (some (slotX a d kv, false))) else sSeq (gb a d) (gc a d) (e.set i (some (slotX a d kv, false))) := fun a d hd => by
      obtain ⟨y, h3, h4⟩ := hc a d hd (e.set i (some (slotX a d kv, false))) (l.set i ⟨rfl, rfl⟩)
      rw [show y = z from h4] at h3
      unfold sSeq
      rw [sIf_app, h3]
      dsimp only
      rw [fz_nil]
      cases z <;> rfl
    show match (if z = true then ra else rb) with | .ok t => _ | _ => True
    cases z with
    | true =>
      have := ha e l
      rw [if_pos rfl]
      cases ra with
      | exc _ _ => trivial
      | bad => trivial
      | ok t =>
        obtain ⟨e', h1, h2⟩ := this
        exact ⟨e', fun a d hd => (congrArg (clrN i) ((step a d hd).trans (if_pos rfl))).trans (h1 a d hd), h2⟩
    | false =>
      have := hb e l
      rw [if_neg Bool.false_ne_true]
      cases rb with
      | exc _ _ => trivial
      | bad => trivial
      | ok t =>
        obtain ⟨e', h1, h2⟩ := this
        exact ⟨e', fun a d hd => (congrArg (clrN i) ((step a d hd).trans (if_neg Bool.false_ne_true))).trans (h1 a d hd), h2⟩
theorem uhx_skip {i : Nat} {kv : List (D × D)} {gs : Addr → Option Addr → DL.Env → Out} {r : Res S} {P : S → KEnv} (h : UHX i ρ kv gs r P) : UHX i ρ kv (fun a d => sSeq sSkip (gs a d)) r P := fun e l => h e l
theorem uhx_assoc {i : Nat} {kv : List (D × D)} {g1 g2 g3 : Addr → Option Addr → DL.Env → Out} {r : Res S} {P : S → KEnv} (h : UHX i ρ kv (fun a d => sSeq (g1 a d) (sSeq (g2 a d) (g3 a d))) r P) : UHX i ρ kv (fun a d => sSeq (sSeq (g1 a d) (g2 a d)) (g3 a d)) r P := fun e l => by
  have z : ∀ a d (x : DL.Env), sSeq (sSeq (g1 a d) (g2 a d)) (g3 a d) x = sSeq (g1 a d) (sSeq (g2 a d) (g3 a d)) x := fun a d x => by
    unfold sSeq; cases g1 a d x <;> rfl
  have := h e l
  cases r with
  | exc _ _ => trivial
  | bad => trivial
  | ok t =>
    obtain ⟨e', h1, h2⟩ := this
    exact ⟨e', fun a d hd => (congrArg (clrN i) (z a d _)).trans (h1 a d hd), h2⟩
inductive HUX {S : Type} (ρx : KEnv) (ρs : S → KEnv) : List HdX → List ((String → Option Bool) × (String → List (D × D) → Res S)) → Prop
  | nil : HUX ρx ρs [] []
  | cons {i : Nat} {h : String → Option Bool} {fs : Addr → Option Addr → String → DL.Env → Out} {k : String → List (D × D) → Res S} {l : List HdX} {kl : List ((String → Option Bool) × (String → List (D × D) → Res S))} (u : ∀ c kv, UHX i ρx kv (fun ad d => fs ad d c) (k c kv) ρs) (r : HUX ρx ρs l kl) : HUX ρx ρs ((i, h, fs) :: l) ((h, k) :: kl)
theorem unif_const' {g : Addr → Out} {r : Out} (h : ∀ a, g a = r) : unif g = r := unif_of h
theorem hux_run {ρs : S → KEnv} {l : List HdX} {kl : List ((String → Option Bool) × (String → List (D × D) → Res S))} (u : HUX ρx ρs l kl) (c : String) (xs : List (D × D)) {e' : DL.Env} (h2 : Le ρx e') : JM (hitEX c xs kl) (PN ρs) (hdlX c xs e' l) := by
  induction u with
  | nil => exact ⟨_, rfl⟩
  | @cons i h fs k l kl u r ih =>
    unfold hitEX hdlX
    cases hc : h c with
    | none => trivial
    | some z =>
      cases z with
      | false => exact ih
      | true =>
        dsimp only
        by_cases hg : xs = [] ∨ flat2 xs = true
        · rw [if_pos hg]
          have := u c xs e' h2
          cases hk : k c xs with
          | exc _ _ => trivial
          | bad => trivial
          | ok t =>
            rw [hk] at this
            obtain ⟨e2, h3, h4⟩ := this
            refine ⟨e2, ?_, h4⟩
            unfold hitOne
            by_cases hx : xs = []
            · rw [if_pos hx]
              exact unif_const' fun a => h3 a none ⟨fun _ => hx, fun _ => rfl⟩
            · rw [if_neg hx, if_pos (hg.resolve_left hx)]
              exact unif_const' fun a => unif_const' fun dd => h3 a (some dd) ⟨(fun z => nomatch z), fun z => absurd z hx⟩
        · rw [if_neg hg]; trivial
theorem j_tryX {l : List HdX} {kl : List ((String → Option Bool) × (String → List (D × D) → Res S))} {r : Res S} {ρs : S → KEnv} (hb : JT ρ ρx a r (PN ρs)) (hs : HUX ρx ρs l kl) : J ρ (sTryX l a) (hitX kl r) (PN ρs) := fun e l' => by
  have := hb e l'
  cases r with
  | ok t => obtain ⟨e', h1, h2⟩ := this; exact ⟨e', by unfold sTryX; rw [h1], h2⟩
  | bad => trivial
  | exc cn xs =>
    obtain ⟨e', h1, h2⟩ := this
    rw [hitX_exc]
    unfold sTryX
    rw [h1]
    exact hux_run hs cn xs h2
theorem v_isF {i : Nat} {ad : Addr} {d : Option Addr} {kv : List (D × D)} {o : Option Bool} (h : ρ[i]? = some (some (sh eErrX (ad, d, kv)))) : EvR ρ (eIsF i ad d o) (optR o) eB := fun e l => by
  obtain ⟨x, z, h1, h2, h3⟩ := l.get h
  subst h3
  unfold eIsF
  rw [h1, show x = _ from h2]
  dsimp only
  have ha : atE ad d (slotX ad d kv) = true := by cases d <;> simp [slotX, atE]
  rw [if_pos ha]
  cases o with
  | some b => exact ⟨_, rfl, rfl⟩
  | none => trivial
/-- a field of the error -/
def fldR (o : Bool) (kv : List (D × D)) (n : Str) : Res D := if o = true then (match fldOf kv n with | some x => .ok x | none => .bad) else .bad
theorem v_fld {i : Nat} {ad : Addr} {d : Option Addr} {kv : List (D × D)} {o : Bool} {n : Str} (hd : d = none ↔ kv = []) (h : ρ[i]? = some (some (sh eErrX (ad, d, kv)))) : EvR ρ (eFld i ad d o n) (fldR o kv n) eD := fun e l => by
  obtain ⟨x, z, h1, h2, h3⟩ := l.get h
  subst h3
  cases d with
  | none =>
    have hk := hd.mp rfl
    subst hk
    unfold fldR
    cases o <;> exact trivial
  | some dd =>
    unfold eFld fldR
    rw [h1, show x = _ from h2]
    dsimp only [slotX]
    cases o with
    | false => exact trivial
    | true =>
      rw [if_pos ⟨by simp [atE], rfl⟩, if_pos rfl]
      cases fldOf kv n with
      | some y => exact ⟨_, rfl, rfl⟩
      | none => trivial
/-! ### l.pop(i) -/
noncomputable def popR {α : Type} (l : List α) (i : Int) : Res (List α) := if 0 ≤ i ∧ i < l.length ∧ i < 1000000 then .ok (l.eraseIdx i.toNat) else .bad
theorem popR_nx (l : List α) (i : Int) (c : String) (fs : List (D × D)) : popR l i ≠ .exc c fs := by unfold popR; split <;> simp
theorem popR_ok {l : List α} {i : Int} (h0 : 0 ≤ i) (h1 : i < l.length) (h2 : i < 1000000) : popR l i = .ok (l.eraseIdx i.toNat) := if_pos ⟨h0, h1, h2⟩
theorem A2.erase {E : α → β → Prop} : ∀ {l : List α} {ds : List β} (n : Nat), A2 E l ds → A2 E (l.eraseIdx n) (ds.eraseIdx n)
  | [], _, n, h => by rw [show _ = [] from h]; exact A2.nil
  | x :: l, _, 0, ⟨y, r, rfl, _, h⟩ => h
  | x :: l, _, n + 1, ⟨y, r, rfl, h1, h⟩ => A2.cons h1 (A2.erase n h)
theorem d_pop {al : List Nat} {i : Nat} {f : DL.Env → Res D} {E : RE α} {l : List α} {r : Res Int} (hf : (fzK al ρ)[i]? = some (some (ow (eL E) l))) (h : EvR ρ f r eI) :
    J ρ (sMut al i gPop (aCons f aNil)) (r.bind fun k => popR l k) (PN fun l' => (fzK al ρ).set i (some (ow (eL E) l'))) :=
  sMut_J hf (vq_1 h) (fun ds b es l' h1 h2 h3 => by
    obtain ⟨d, rfl, hd⟩ := h2
    rw [show d = .int b from hd]
    unfold popR at h3
    split at h3
    · rename_i hl
      cases h3
      refine ⟨ds.eraseIdx b.toNat, ?_, A2.erase _ h1⟩
      unfold gPop
      dsimp only
      rw [if_pos (by rw [h1.length]; exact hl)]
    · cases h3) (fun b => popR_nx l _)
/-! ### a text so many times -/
noncomputable def timesR (a : Str) (k : Int) : Res Str := if 2 ≤ k ∧ k ≤ 1000 ∧ 1 ≤ a.length ∧ a.length ≤ 1000 then .ok (timesS a k.toNat) else .bad
theorem o_mulS (a : Str) (k : Int) : ∀ x y, eS a x → eI k y → Rf (dMulS x y) (timesR a k) eS := by
  rintro _ _ rfl rfl
  unfold timesR
  by_cases h : 2 ≤ k ∧ k ≤ 1000 ∧ 1 ≤ a.length ∧ a.length ≤ 1000
  · rw [if_pos h]; exact ⟨_, if_pos h, rfl⟩
  · rw [if_neg h]; trivial
end
end DL

namespace DL
open PySem PySem.Spec PyProof.Rows L2
theorem dv {X : Cx} {W : WX} {A : Nat → Prop} (i : Nat) {x : Str} {pos : Pos} (hN : X.N[i]? = some x := by rfl) (hv : Vis X.env.scope x := by first | exact .inl rfl | exact .inr (.inl rfl) | exact .inr (.inr rfl)) (hd : (x == ("__debug__" : Str)) = false := by decide) (hcd : (x == ("__classdict__" : Str)) = false := by decide) : DE X W A (.Name x pos) (eVarS i) := de_vs hN hv hd hcd
theorem vN {ρ : KEnv} (n : Int) : EvR ρ (eC (.int n)) (.ok n) eI := v_c (E := eI) (a := n) rfl
theorem szl {n : Nat} (h : n ≤ 1000000) : n ≤ sizeLine := by rw [PySem.sizeLine_eq]; omega
end DL

namespace DLaw
open DL PySem PySem.Spec PyProof.Rows L2
open PySem.Builtin.Int (intBits)
def top (i : Nat) : Stmt := PySem.Challenge.pw_blurdesk_k84_tables_refused.main.body.getD i (.Pass ⟨0, 0, 0, 0⟩)
def h_BadText : String → Option Bool := fun s => if s = "TooMany" then some false else (fun s => if s = "BadText" then some true else (fun _ => none) s) s
def i_BlurError : String → Option Bool := fun s => if s = "TooMany" then some true else (fun s => if s = "BadText" then some true else (fun _ => none) s) s
def i_ValueError : String → Option Bool := fun s => if s = "TooMany" then some true else (fun s => if s = "BadText" then some true else (fun _ => none) s) s
def a_row : String → Bool := fun s => if s = "BadText" then true else (fun _ => false) s
/-! what the top says of the built-ins and errors -/
structure Txt (K : PySem.W.Frag) (mg : Str → Option Value) : Prop where
  z_str : mg "str" = none
  z_len : mg "len" = none
  z_range : mg "range" = none
  z_sorted : mg "sorted" = none
  z_tuple : mg "tuple" = none
  z_int : mg "int" = none
  z_enumerate : mg "enumerate" = none
  z_isinstance : mg "isinstance" = none
  z_ValueError : mg "ValueError" = none
  z_all : mg "all" = none
  x_TooMany : ExcOk K mg "TooMany"
  c_MOST_ROWS_tables : ConOk K mg "MOST_ROWS_tables" (.int 40)
  c_FIGURES : ConOk K mg "FIGURES" (.str "0123456789")
  c_MOST : ConOk K mg "MOST" (.int 1000000000000000000)
  c_MOST_FIELDS : ConOk K mg "MOST_FIELDS" (.int 4)
  c_MOST_ROWS_texts : ConOk K mg "MOST_ROWS_texts" (.int 40)
  j_BlurError : ∃ c, mg "BlurError" = some (.ref c) ∧ IsTab K mg (.ref c) i_BlurError
  j_ValueError : IsTab K mg (.type "ValueError") i_ValueError
  q_BadText : ∃ c, mg "BadText" = some c ∧ Clause K mg c h_BadText
  n_row : FldTab K mg "row" a_row
/-! _law_mix -/
abbrev s_l_mix : Stmt := top 16
noncomputable def b_l_mix : DL.Env → Out := (sSeq (sSet [] 2 (eOp dMod (eOp dAdd (eOp dMul (eOp dMod (eVarS 0) (eOp dPow (eC (.int 10)) (eC (.int 30)))) (eC (.int 1000000000000000003))) (eOp dMul (eOp dAdd (eOp dAdd (eOp dMul (eVarS 1) (eVarS 1)) (eVarS 1)) (eC (.int 1))) (eC (.int 1442695040888963407)))) (eC (.int 2305843009213693951)))) (sSeq (sRet [] (eOp dMod (eOp dMul (eVarS 2) (eVarS 2)) (eC (.int 2305843009213693921)))) sSkip))
noncomputable def F_l_mix : List D → Res D := runDef 2 3 b_l_mix
/-! _law_word -/
abbrev s_l_word : Stmt := top 19
noncomputable def b_l_word : DL.Env → Out := (sSeq (sSet [] 1 (eLst (aCons (eC (.str "")) (aCons (eC (.str "-")) (aCons (eC (.str "-0")) (aCons (eC (.str "00")) (aCons (eC (.str "+1")) (aCons (eC (.str "1_0")) (aCons (eC (.str "01")) (aCons (eC (.str "x")) (aCons (eC (.str "1.0")) (aCons (eC (.str "--2")) (aCons (eC (.str "5-")) (aCons (eC (.str "-07")) (aCons (eC (.str "1e3")) (aCons (e1 dStrI (eOp dAdd (eOp dPow (eC (.int 10)) (eC (.int 18))) (eC (.int 1)))) aNil)))))))))))))))) (sSeq (sSet [] 1 (eOp dAdd (eVarS 1) (eLst (aCons (e1 dStrI (eOp dSub (eNeg (eOp dPow (eC (.int 10)) (eC (.int 18)))) (eC (.int 1)))) (aCons (eOp dMulS (eC (.str "9")) (eC (.int 19))) (aCons (eOp dAdd (eC (.str "1")) (eOp dMulS (eC (.str "0")) (eC (.int 19)))) (aCons (eOp dMulS (eC (.str "7")) (eC (.int 300))) (aCons (e1 dStrI (eOp dPow (eC (.int 10)) (eC (.int 18)))) (aCons (e1 dStrI (eNeg (eOp dPow (eC (.int 10)) (eC (.int 18))))) (aCons (eC (.str "0")) aNil)))))))))) (sSeq (sRet [] (eOp dIxA (eVarS 1) (eOp dMod (eVarS 0) (e1 dLen (eVarS 1))))) sSkip)))
noncomputable def F_l_word : List D → Res D := runDef 1 2 b_l_word
/-! _law_spoiled -/
abbrev s_l_spoiled : Stmt := top 20
noncomputable def b_l_spoiled : DL.Env → Out := (sSeq (sSetF [] 2 (eSplit (eVarS 0) (eC (.str " ")))) (sSeq (sSet [] 3 (eOp dMod (eOp dDiv (eVarS 1) (eC (.int 8))) (e1 dLen (eVar 2)))) (sSeq (sSet [] 4 (eOp dMod (eVarS 1) (eC (.int 8)))) (sSeq (sIf [] (bTest dEq (eVarS 4) (eC (.int 0))) (sSeq (sPutL [] 2 (eVarS 3) (eCall F_l_word (aCons (eOp dDiv (eVarS 1) (eC (.int 64))) aNil))) sSkip) sSkip) (sSeq (sIf [] (bTest dEq (eVarS 4) (eC (.int 1))) (sSeq (sMut [] 2 gInsert (aCons (eVarS 3) (aCons (eCall F_l_word (aCons (eOp dDiv (eVarS 1) (eC (.int 64))) aNil)) aNil))) sSkip) sSkip) (sSeq (sIf [] (bTest dEq (eVarS 4) (eC (.int 2))) (sSeq (sMut [] 2 gPop (aCons (eVarS 3) aNil)) sSkip) sSkip) (sSeq (sIf [] (bTest dEq (eVarS 4) (eC (.int 3))) (sSeq (sSetF [] 2 (eOp dCat (eLst (aCons (eC (.str "")) aNil)) (eVar 2))) sSkip) sSkip) (sSeq (sIf [] (bTest dEq (eVarS 4) (eC (.int 4))) (sSeq (sMut [] 2 gAppend (aCons (eC (.str "")) aNil)) sSkip) sSkip) (sSeq (sIf [] (bTest dEq (eVarS 4) (eC (.int 5))) (sSeq (sMut [] 2 gInsert (aCons (eVarS 3) (aCons (eC (.str "")) aNil))) sSkip) sSkip) (sSeq (sIf [] (bTest dEq (eVarS 4) (eC (.int 6))) (sSeq (sSetF [] 2 (eLst (aCons (eC (.str "1")) (aCons (eC (.str "2")) (aCons (eC (.str "3")) (aCons (eC (.str "4")) (aCons (eC (.str "5")) aNil))))))) sSkip) sSkip) (sSeq (sIf [] (bTest dEq (eVarS 4) (eC (.int 7))) (sSeq (sSet [] 5 (eOp dIxA (eLst (aCons (eC (.str "'")) (aCons (eC (.str "_")) (aCons (eC (.str "+")) (aCons (eC (.str "a")) aNil))))) (eOp dMod (eOp dDiv (eVarS 1) (eC (.int 64))) (eC (.int 4))))) (sSeq (sPutL [] 2 (eVarS 3) (eOp dAdd (eOp dIxA (eVar 2) (eVarS 3)) (eVarS 5))) sSkip)) sSkip) (sSeq (sRet [] (eJoin (eC (.str " ")) (eVar 2))) sSkip))))))))))))
noncomputable def F_l_spoiled : List D → Res D := runDef 2 6 b_l_spoiled
/-! _law_made -/
abbrev s_l_made : Stmt := top 21
noncomputable def b_l_made_1 : DL.Env → Out := (sSeq (sMut [] 5 gAppend (aCons (eJoin (eC (.str " ")) (eComp [7] (.nm 7) (iRange1 (eVarS 3)) bYes (e1 dStrI (eOp dSub (eOp dMod (eCall F_l_mix (aCons (eVarS 0) (aCons (eOp dAdd (eOp dAdd (eOp dMul (eC (.int 9)) (eVarS 6)) (eVarS 7)) (eVarS 1)) aNil))) (eC (.int 30))) (eC (.int 9)))))) aNil)) sSkip)
noncomputable def b_l_made_2 : DL.Env → Out := (sSeq (sSet [] 8 (eCall F_l_mix (aCons (eVarS 0) (aCons (eOp dAdd (eC (.int 777)) (eVarS 6)) aNil)))) (sSeq (sSet [] 9 (eOp dMod (eVarS 8) (eVarS 4))) (sSeq (sPutL [] 5 (eVarS 9) (eCall F_l_spoiled (aCons (eOp dIxA (eVar 5) (eVarS 9)) (aCons (eOp dDiv (eVarS 8) (eC (.int 64))) aNil)))) sSkip)))
noncomputable def b_l_made : DL.Env → Out := (sSeq (sSet [] 2 (eCall F_l_mix (aCons (eVarS 0) (aCons (eVarS 1) aNil)))) (sSeq (sSet [] 3 (eOp dAdd (eC (.int 1)) (eOp dMod (eVarS 2) (eC (.int 4))))) (sSeq (sSet [] 4 (eOp dAdd (eC (.int 1)) (eOp dMod (eOp dDiv (eVarS 2) (eC (.int 4))) (eC (.int 6))))) (sSeq (sIf [] (bTest dEq (eOp dMod (eOp dDiv (eVarS 2) (eC (.int 24))) (eC (.int 8))) (eC (.int 1))) (sSeq (sSet [] 4 (eOp dAdd (eC (.int 38)) (eOp dMod (eOp dDiv (eVarS 2) (eC (.int 192))) (eC (.int 6))))) sSkip) sSkip) (sSeq (sSetF [] 5 (eLst aNil)) (sSeq (sFor [] (.nm 6) (iRange1 (eVarS 4)) b_l_made_1) (sSeq (sFor [] (.nm 6) (iRange1 (eOp dMod (eOp dDiv (eVarS 2) (eC (.int 2000))) (eC (.int 3)))) b_l_made_2) (sSeq (sRet [] (eOp dAdd (eJoin (eC (.str "
")) (eVar 5)) (eOp dIxA (eLst (aCons (eC (.str "")) (aCons (eC (.str "")) (aCons (eC (.str "")) (aCons (eC (.str "")) (aCons (eC (.str "
")) aNil)))))) (eOp dMod (eOp dDiv (eVarS 2) (eC (.int 7000))) (eC (.int 5)))))) sSkip))))))))
noncomputable def F_l_made : List D → Res D := runDef 2 10 b_l_made
/-! table_of -/
abbrev s_table_of : Stmt := top 6
noncomputable def b_table_of : DL.Env → Out := (sSeq (sIf [] (bTest dGt (e1 dLen (eVarS 0)) (eC (.int 40))) (sSeq (sRaise "TooMany") sSkip) sSkip) (sSeq (sRet [] (e1 dTuple (e1 dSorted (eVarS 0)))) sSkip))
noncomputable def F_table_of : List D → Res D := runDef 1 1 b_table_of
/-! field_in -/
abbrev s_field_in : Stmt := top 12
noncomputable def b_field_in_1 : DL.Env → Out := (sSeq (sIf [] (bTest (dInA true) (eVarS 2) (eC (.str "0123456789"))) (sSeq (sRet [] (eC .non)) sSkip) sSkip) sSkip)
noncomputable def b_field_in : DL.Env → Out := (sSeq (sSet [] 1 (eVarS 0)) (sSeq (sIf [] (bTest dEq (eCut (eVarS 0) oNone (oSome (eC (.int 1)))) (eC (.str "-"))) (sSeq (sSet [] 1 (eCut (eVarS 0) (oSome (eC (.int 1))) oNone)) sSkip) sSkip) (sSeq (sIf [] (bOr (bTest dLt (e1 dLen (eVarS 1)) (eC (.int 1))) (bTest dGt (e1 dLen (eVarS 1)) (eC (.int 19)))) (sSeq (sRet [] (eC .non)) sSkip) sSkip) (sSeq (sFor [] (.nm 2) (iStrD (eVarS 1)) b_field_in_1) (sSeq (sIf [] (bAnd (bTest dEq (eOp dIx (eVarS 1) (eC (.int 0))) (eC (.str "0"))) (bTest dNe (eVarS 0) (eC (.str "0")))) (sSeq (sRet [] (eC .non)) sSkip) sSkip) (sSeq (sSet [] 3 (e1 dIntT (eVarS 1))) (sSeq (sIf [] (bTest dGt (eVarS 3) (eC (.int 1000000000000000000))) (sSeq (sRet [] (eC .non)) sSkip) sSkip) (sSeq (sIf [] (bTest dEq (eCut (eVarS 0) oNone (oSome (eC (.int 1)))) (eC (.str "-"))) (sSeq (sRet [] (eNeg (eVarS 3))) sSkip) sSkip) (sSeq (sRet [] (eVarS 3)) sSkip)))))))))
noncomputable def F_field_in : List D → Res D := runDef 1 4 b_field_in
/-! row_in -/
abbrev s_row_in : Stmt := top 13
noncomputable def b_row_in_1 : DL.Env → Out := (sSeq (sSet [] 3 (eCall F_field_in (aCons (eVarS 2) aNil))) (sSeq (sIf [] (bTest dIs (eVarS 3) (eC .non)) (sSeq (sRet [] (eC .non)) sSkip) sSkip) (sSeq (sMut [] 1 gAppend (aCons (eVarS 3) aNil)) sSkip)))
noncomputable def b_row_in : DL.Env → Out := (sSeq (sSetF [] 1 (eLst aNil)) (sSeq (sFor [] (.nm 2) (iSeq (eSplit (eVarS 0) (eC (.str " ")))) b_row_in_1) (sSeq (sIf [] (bTest dGt (e1 dLen (eVar 1)) (eC (.int 4))) (sSeq (sRet [] (eC .non)) sSkip) sSkip) (sSeq (sRet [] (e1 dTuple (eVar 1))) sSkip))))
noncomputable def F_row_in : List D → Res D := runDef 1 4 b_row_in
/-! table_read -/
abbrev s_table_read : Stmt := top 14
noncomputable def b_table_read_1 : DL.Env → Out := (sSeq (sSet [] 4 (eCall F_row_in (aCons (eVarS 3) aNil))) (sSeq (sIf [] (bOr (bTest dIs (eVarS 4) (eC .non)) (bOr (bTest dGe (eVarS 2) (eC (.int 40))) (bAnd (bTest dGt (eVarS 2) (eC (.int 0))) (bTest dNe (e1 dLen (eVarS 4)) (e1 dLen (eOp dIx (eVar 1) (eC (.int 0)))))))) (sSeq (sRaiseX [] "BadText" ["row"] (aCons (eC (.str "no row of this table")) (aCons (eOp dAdd (eVarS 2) (eC (.int 1))) aNil))) sSkip) sSkip) (sSeq (sMut [] 1 gAppend (aCons (eVarS 4) aNil)) sSkip)))
noncomputable def b_table_read : DL.Env → Out := (sSeq (sSetF [] 1 (eLst aNil)) (sSeq (sIf [] (bTest dEq (eVarS 0) (eC (.str ""))) (sSeq (sRet [1] (eCall F_table_of (aCons (eVar 1) aNil))) sSkip) sSkip) (sSeq (sFor [] (.tp [(.nm 2), (.nm 3)]) (iEnum (eSplit (eVarS 0) (eC (.str "
")))) b_table_read_1) (sSeq (sRet [1] (eCall F_table_of (aCons (eVar 1) aNil))) sSkip))))
noncomputable def F_table_read : List D → Res D := runDef 1 5 b_table_read
/-! _law_row_told -/
abbrev s_l_row_told : Stmt := top 22
noncomputable def b_l_row_told : DL.Env → Out := (sSeq (sSet [] 1 (eC (.int 0))) (sSeq (sTryX [(3, h_BadText, (fun a dx k => (sSeq (sSet [] 1 (eFld 3 a dx (a_row k) "row")) (sSeq (sIf [] (bOr (bNot (bTruth (eIsF 3 a dx (i_BlurError k)))) (bNot (bTruth (eIsF 3 a dx (i_ValueError k))))) (sSeq (sSet [] 1 (eNeg (eC (.int 2)))) sSkip) sSkip) sSkip))))] (sSeq (sSet [] 2 (eCall F_table_read (aCons (eVarS 0) aNil))) (sSeq (sIf [] (bAnd (bTest dNe (e1 dLen (eVarS 2)) (e1 dLen (eSplit (eVarS 0) (eC (.str "
"))))) (bTest dNe (eVarS 0) (eC (.str "")))) (sSeq (sSet [] 1 (eNeg (eC (.int 1)))) sSkip) sSkip) sSkip))) (sSeq (sRet [] (eVarS 1)) sSkip)))
noncomputable def F_l_row_told : List D → Res D := runDef 1 4 b_l_row_told
/-! _law_is_number -/
abbrev s_l_is_number : Stmt := top 17
noncomputable def b_l_is_number_1 : DL.Env → Out := (sSeq (sIf [] (bTest (dInA true) (eVarS 2) (eC (.str "0123456789"))) (sSeq (sRet [] (eC (.bl false))) sSkip) sSkip) sSkip)
noncomputable def b_l_is_number : DL.Env → Out := (sSeq (sSet [] 1 (eVarS 0)) (sSeq (sIf [] (bTest dEq (eCut (eVarS 0) oNone (oSome (eC (.int 1)))) (eC (.str "-"))) (sSeq (sSet [] 1 (eCut (eVarS 0) (oSome (eC (.int 1))) oNone)) sSkip) sSkip) (sSeq (sIf [] (bOr (bTest dLt (e1 dLen (eVarS 1)) (eC (.int 1))) (bOr (bTest dGt (e1 dLen (eVarS 1)) (eC (.int 19))) (bAnd (bTest dEq (eOp dIx (eVarS 1) (eC (.int 0))) (eC (.str "0"))) (bTest dNe (eVarS 0) (eC (.str "0")))))) (sSeq (sRet [] (eC (.bl false))) sSkip) sSkip) (sSeq (sFor [] (.nm 2) (iStrD (eVarS 1)) b_l_is_number_1) (sSeq (sRet [] (eOp dLe (e1 dIntT (eVarS 1)) (eOp dPow (eC (.int 10)) (eC (.int 18))))) sSkip)))))
noncomputable def F_l_is_number : List D → Res D := runDef 1 3 b_l_is_number
/-! _law_due -/
abbrev s_l_due : Stmt := top 18
noncomputable def b_l_due_1 : DL.Env → Out := (sSeq (sSet [] 4 (eSplit (eOp dIxA (eVarS 1) (eVarS 3)) (eC (.str " ")))) (sSeq (sIf [] (bOr (bTest dGt (e1 dLen (eVarS 4)) (eC (.int 4))) (bOr (bTest dNe (e1 dLen (eVarS 4)) (eVarS 2)) (bTest dGt (eVarS 3) (eC (.int 39))))) (sSeq (sRet [] (eOp dAdd (eVarS 3) (eC (.int 1)))) sSkip) sSkip) (sSeq (sIf [] (bNot (bTruth (e1 dAll (eComp [5] (.nm 5) (iSeq (eVarS 4)) bYes (eCall F_l_is_number (aCons (eVarS 5) aNil)))))) (sSeq (sRet [] (eOp dAdd (eVarS 3) (eC (.int 1)))) sSkip) sSkip) sSkip)))
noncomputable def b_l_due : DL.Env → Out := (sSeq (sIf [] (bTest dEq (eVarS 0) (eC (.str ""))) (sSeq (sRet [] (eC (.int 0))) sSkip) sSkip) (sSeq (sSet [] 1 (eSplit (eVarS 0) (eC (.str "
")))) (sSeq (sSet [] 2 (e1 dLen (eSplit (eOp dIx (eVarS 1) (eC (.int 0))) (eC (.str " "))))) (sSeq (sFor [] (.nm 3) (iRange1 (e1 dLen (eVarS 1))) b_l_due_1) (sSeq (sRet [] (eC (.int 0))) sSkip)))))
noncomputable def F_l_due : List D → Res D := runDef 1 6 b_l_due
/-! law -/
abbrev s_law : Stmt := top 23
noncomputable def b_law_1 : DL.Env → Out := (sSeq (sSet [] 2 (eCall F_l_made (aCons (eOp dIxA (eVarS 0) (eVarS 1)) (aCons (eVarS 1) aNil)))) (sSeq (sIf [] (bTest dNe (eCall F_l_row_told (aCons (eVarS 2) aNil)) (eCall F_l_due (aCons (eVarS 2) aNil))) (sSeq (sRet [] (eC (.bl false))) sSkip) sSkip) sSkip))
noncomputable def b_law : DL.Env → Out := (sSeq (sFor [] (.nm 1) (iRange1 (e1 dLen (eVarS 0))) b_law_1) (sSeq (sRet [] (eAnd (eOp dEq (eCall F_l_row_told (aCons (eC (.str "
")) aNil)) (eC (.int 1))) (eOp dEq (eCall F_l_row_told (aCons (eC (.str "")) aNil)) (eC (.int 0))))) sSkip))
noncomputable def F_law : List D → Res D := runDef 1 3 b_law
@[simp] theorem strok_0 : PyData.strOk "" = true := by decide +kernel
@[simp] theorem strok_1 : PyData.strOk "-" = true := by decide +kernel
@[simp] theorem strok_2 : PyData.strOk "-0" = true := by decide +kernel
@[simp] theorem strok_3 : PyData.strOk "00" = true := by decide +kernel
@[simp] theorem strok_4 : PyData.strOk "+1" = true := by decide +kernel
@[simp] theorem strok_5 : PyData.strOk "1_0" = true := by decide +kernel
@[simp] theorem strok_6 : PyData.strOk "01" = true := by decide +kernel
@[simp] theorem strok_7 : PyData.strOk "x" = true := by decide +kernel
@[simp] theorem strok_8 : PyData.strOk "1.0" = true := by decide +kernel
@[simp] theorem strok_9 : PyData.strOk "--2" = true := by decide +kernel
@[simp] theorem strok_10 : PyData.strOk "5-" = true := by decide +kernel
@[simp] theorem strok_11 : PyData.strOk "-07" = true := by decide +kernel
@[simp] theorem strok_12 : PyData.strOk "1e3" = true := by decide +kernel
@[simp] theorem strok_13 : PyData.strOk "0" = true := by decide +kernel
@[simp] theorem strok_14 : PyData.strOk "9" = true := by decide +kernel
@[simp] theorem strok_15 : PyData.strOk "1" = true := by decide +kernel
@[simp] theorem strok_16 : PyData.strOk "7" = true := by decide +kernel
@[simp] theorem strok_17 : PyData.strOk " " = true := by decide +kernel
@[simp] theorem strok_18 : PyData.strOk "2" = true := by decide +kernel
@[simp] theorem strok_19 : PyData.strOk "3" = true := by decide +kernel
@[simp] theorem strok_20 : PyData.strOk "4" = true := by decide +kernel
@[simp] theorem strok_21 : PyData.strOk "5" = true := by decide +kernel
@[simp] theorem strok_22 : PyData.strOk "'" = true := by decide +kernel
@[simp] theorem strok_23 : PyData.strOk "_" = true := by decide +kernel
@[simp] theorem strok_24 : PyData.strOk "+" = true := by decide +kernel
@[simp] theorem strok_25 : PyData.strOk "a" = true := by decide +kernel
@[simp] theorem strok_26 : PyData.strOk "
" = true := by decide +kernel
@[simp] theorem strok_27 : PyData.strOk "too many rows" = true := by decide +kernel
@[simp] theorem strok_28 : PyData.strOk "no row of this table" = true := by decide +kernel
@[simp] theorem strok_29 : PyData.strOk "0123456789" = true := by decide +kernel
@[simp] theorem str_0_1 : (Str.ofString "" = Str.ofString "-") = False := eq_false (by decide +kernel)
@[simp] theorem str_0_2 : (Str.ofString "" = Str.ofString "-0") = False := eq_false (by decide +kernel)
@[simp] theorem str_0_3 : (Str.ofString "" = Str.ofString "00") = False := eq_false (by decide +kernel)
@[simp] theorem str_0_4 : (Str.ofString "" = Str.ofString "+1") = False := eq_false (by decide +kernel)
@[simp] theorem str_0_5 : (Str.ofString "" = Str.ofString "1_0") = False := eq_false (by decide +kernel)
@[simp] theorem str_0_6 : (Str.ofString "" = Str.ofString "01") = False := eq_false (by decide +kernel)
@[simp] theorem str_0_7 : (Str.ofString "" = Str.ofString "x") = False := eq_false (by decide +kernel)
@[simp] theorem str_0_8 : (Str.ofString "" = Str.ofString "1.0") = False := eq_false (by decide +kernel)
@[simp] theorem str_0_9 : (Str.ofString "" = Str.ofString "--2") = False := eq_false (by decide +kernel)
@[simp] theorem str_0_10 : (Str.ofString "" = Str.ofString "5-") = False := eq_false (by decide +kernel)
@[simp] theorem str_0_11 : (Str.ofString "" = Str.ofString "-07") = False := eq_false (by decide +kernel)
@[simp] theorem str_0_12 : (Str.ofString "" = Str.ofString "1e3") = False := eq_false (by decide +kernel)
@[simp] theorem str_0_13 : (Str.ofString "" = Str.ofString "0") = False := eq_false (by decide +kernel)
@[simp] theorem str_0_14 : (Str.ofString "" = Str.ofString "9") = False := eq_false (by decide +kernel)
@[simp] theorem str_0_15 : (Str.ofString "" = Str.ofString "1") = False := eq_false (by decide +kernel)
@[simp] theorem str_0_16 : (Str.ofString "" = Str.ofString "7") = False := eq_false (by decide +kernel)
@[simp] theorem str_0_17 : (Str.ofString "" = Str.ofString " ") = False := eq_false (by decide +kernel)
@[simp] theorem str_0_18 : (Str.ofString "" = Str.ofString "2") = False := eq_false (by decide +kernel)
@[simp] theorem str_0_19 : (Str.ofString "" = Str.ofString "3") = False := eq_false (by decide +kernel)
@[simp] theorem str_0_20 : (Str.ofString "" = Str.ofString "4") = False := eq_false (by decide +kernel)
@[simp] theorem str_0_21 : (Str.ofString "" = Str.ofString "5") = False := eq_false (by decide +kernel)
@[simp] theorem str_0_22 : (Str.ofString "" = Str.ofString "'") = False := eq_false (by decide +kernel)
@[simp] theorem str_0_23 : (Str.ofString "" = Str.ofString "_") = False := eq_false (by decide +kernel)
@[simp] theorem str_0_24 : (Str.ofString "" = Str.ofString "+") = False := eq_false (by decide +kernel)
@[simp] theorem str_0_25 : (Str.ofString "" = Str.ofString "a") = False := eq_false (by decide +kernel)
@[simp] theorem str_0_26 : (Str.ofString "" = Str.ofString "
") = False := eq_false (by decide +kernel)
@[simp] theorem str_0_27 : (Str.ofString "" = Str.ofString "too many rows") = False := eq_false (by decide +kernel)
@[simp] theorem str_0_28 : (Str.ofString "" = Str.ofString "no row of this table") = False := eq_false (by decide +kernel)
@[simp] theorem str_0_29 : (Str.ofString "" = Str.ofString "0123456789") = False := eq_false (by decide +kernel)
@[simp] theorem str_1_0 : (Str.ofString "-" = Str.ofString "") = False := eq_false (by decide +kernel)
@[simp] theorem str_1_2 : (Str.ofString "-" = Str.ofString "-0") = False := eq_false (by decide +kernel)
@[simp] theorem str_1_3 : (Str.ofString "-" = Str.ofString "00") = False := eq_false (by decide +kernel)
@[simp] theorem str_1_4 : (Str.ofString "-" = Str.ofString "+1") = False := eq_false (by decide +kernel)
@[simp] theorem str_1_5 : (Str.ofString "-" = Str.ofString "1_0") = False := eq_false (by decide +kernel)
@[simp] theorem str_1_6 : (Str.ofString "-" = Str.ofString "01") = False := eq_false (by decide +kernel)
@[simp] theorem str_1_7 : (Str.ofString "-" = Str.ofString "x") = False := eq_false (by decide +kernel)
@[simp] theorem str_1_8 : (Str.ofString "-" = Str.ofString "1.0") = False := eq_false (by decide +kernel)
@[simp] theorem str_1_9 : (Str.ofString "-" = Str.ofString "--2") = False := eq_false (by decide +kernel)
@[simp] theorem str_1_10 : (Str.ofString "-" = Str.ofString "5-") = False := eq_false (by decide +kernel)
@[simp] theorem str_1_11 : (Str.ofString "-" = Str.ofString "-07") = False := eq_false (by decide +kernel)
@[simp] theorem str_1_12 : (Str.ofString "-" = Str.ofString "1e3") = False := eq_false (by decide +kernel)
@[simp] theorem str_1_13 : (Str.ofString "-" = Str.ofString "0") = False := eq_false (by decide +kernel)
@[simp] theorem str_1_14 : (Str.ofString "-" = Str.ofString "9") = False := eq_false (by decide +kernel)
@[simp] theorem str_1_15 : (Str.ofString "-" = Str.ofString "1") = False := eq_false (by decide +kernel)
@[simp] theorem str_1_16 : (Str.ofString "-" = Str.ofString "7") = False := eq_false (by decide +kernel)
@[simp] theorem str_1_17 : (Str.ofString "-" = Str.ofString " ") = False := eq_false (by decide +kernel)
@[simp] theorem str_1_18 : (Str.ofString "-" = Str.ofString "2") = False := eq_false (by decide +kernel)
@[simp] theorem str_1_19 : (Str.ofString "-" = Str.ofString "3") = False := eq_false (by decide +kernel)
@[simp] theorem str_1_20 : (Str.ofString "-" = Str.ofString "4") = False := eq_false (by decide +kernel)
@[simp] theorem str_1_21 : (Str.ofString "-" = Str.ofString "5") = False := eq_false (by decide +kernel)
@[simp] theorem str_1_22 : (Str.ofString "-" = Str.ofString "'") = False := eq_false (by decide +kernel)
@[simp] theorem str_1_23 : (Str.ofString "-" = Str.ofString "_") = False := eq_false (by decide +kernel)
@[simp] theorem str_1_24 : (Str.ofString "-" = Str.ofString "+") = False := eq_false (by decide +kernel)
@[simp] theorem str_1_25 : (Str.ofString "-" = Str.ofString "a") = False := eq_false (by decide +kernel)
@[simp] theorem str_1_26 : (Str.ofString "-" = Str.ofString "
") = False := eq_false (by decide +kernel)
@[simp] theorem str_1_27 : (Str.ofString "-" = Str.ofString "too many rows") = False := eq_false (by decide +kernel)
@[simp] theorem str_1_28 : (Str.ofString "-" = Str.ofString "no row of this table") = False := eq_false (by decide +kernel)
@[simp] theorem str_1_29 : (Str.ofString "-" = Str.ofString "0123456789") = False := eq_false (by decide +kernel)
@[simp] theorem str_2_0 : (Str.ofString "-0" = Str.ofString "") = False := eq_false (by decide +kernel)
@[simp] theorem str_2_1 : (Str.ofString "-0" = Str.ofString "-") = False := eq_false (by decide +kernel)
@[simp] theorem str_2_3 : (Str.ofString "-0" = Str.ofString "00") = False := eq_false (by decide +kernel)
@[simp] theorem str_2_4 : (Str.ofString "-0" = Str.ofString "+1") = False := eq_false (by decide +kernel)
@[simp] theorem str_2_5 : (Str.ofString "-0" = Str.ofString "1_0") = False := eq_false (by decide +kernel)
@[simp] theorem str_2_6 : (Str.ofString "-0" = Str.ofString "01") = False := eq_false (by decide +kernel)
@[simp] theorem str_2_7 : (Str.ofString "-0" = Str.ofString "x") = False := eq_false (by decide +kernel)
@[simp] theorem str_2_8 : (Str.ofString "-0" = Str.ofString "1.0") = False := eq_false (by decide +kernel)
@[simp] theorem str_2_9 : (Str.ofString "-0" = Str.ofString "--2") = False := eq_false (by decide +kernel)
@[simp] theorem str_2_10 : (Str.ofString "-0" = Str.ofString "5-") = False := eq_false (by decide +kernel)
@[simp] theorem str_2_11 : (Str.ofString "-0" = Str.ofString "-07") = False := eq_false (by decide +kernel)
@[simp] theorem str_2_12 : (Str.ofString "-0" = Str.ofString "1e3") = False := eq_false (by decide +kernel)
@[simp] theorem str_2_13 : (Str.ofString "-0" = Str.ofString "0") = False := eq_false (by decide +kernel)
@[simp] theorem str_2_14 : (Str.ofString "-0" = Str.ofString "9") = False := eq_false (by decide +kernel)
@[simp] theorem str_2_15 : (Str.ofString "-0" = Str.ofString "1") = False := eq_false (by decide +kernel)
@[simp] theorem str_2_16 : (Str.ofString "-0" = Str.ofString "7") = False := eq_false (by decide +kernel)
@[simp] theorem str_2_17 : (Str.ofString "-0" = Str.ofString " ") = False := eq_false (by decide +kernel)
@[simp] theorem str_2_18 : (Str.ofString "-0" = Str.ofString "2") = False := eq_false (by decide +kernel)
@[simp] theorem str_2_19 : (Str.ofString "-0" = Str.ofString "3") = False := eq_false (by decide +kernel)
@[simp] theorem str_2_20 : (Str.ofString "-0" = Str.ofString "4") = False := eq_false (by decide +kernel)
@[simp] theorem str_2_21 : (Str.ofString "-0" = Str.ofString "5") = False := eq_false (by decide +kernel)
@[simp] theorem str_2_22 : (Str.ofString "-0" = Str.ofString "'") = False := eq_false (by decide +kernel)
@[simp] theorem str_2_23 : (Str.ofString "-0" = Str.ofString "_") = False := eq_false (by decide +kernel)
@[simp] theorem str_2_24 : (Str.ofString "-0" = Str.ofString "+") = False := eq_false (by decide +kernel)
@[simp] theorem str_2_25 : (Str.ofString "-0" = Str.ofString "a") = False := eq_false (by decide +kernel)
@[simp] theorem str_2_26 : (Str.ofString "-0" = Str.ofString "
") = False := eq_false (by decide +kernel)
@[simp] theorem str_2_27 : (Str.ofString "-0" = Str.ofString "too many rows") = False := eq_false (by decide +kernel)
@[simp] theorem str_2_28 : (Str.ofString "-0" = Str.ofString "no row of this table") = False := eq_false (by decide +kernel)
@[simp] theorem str_2_29 : (Str.ofString "-0" = Str.ofString "0123456789") = False := eq_false (by decide +kernel)
@[simp] theorem str_3_0 : (Str.ofString "00" = Str.ofString "") = False := eq_false (by decide +kernel)
@[simp] theorem str_3_1 : (Str.ofString "00" = Str.ofString "-") = False := eq_false (by decide +kernel)
@[simp] theorem str_3_2 : (Str.ofString "00" = Str.ofString "-0") = False := eq_false (by decide +kernel)
@[simp] theorem str_3_4 : (Str.ofString "00" = Str.ofString "+1") = False := eq_false (by decide +kernel)
@[simp] theorem str_3_5 : (Str.ofString "00" = Str.ofString "1_0") = False := eq_false (by decide +kernel)
@[simp] theorem str_3_6 : (Str.ofString "00" = Str.ofString "01") = False := eq_false (by decide +kernel)
@[simp] theorem str_3_7 : (Str.ofString "00" = Str.ofString "x") = False := eq_false (by decide +kernel)
@[simp] theorem str_3_8 : (Str.ofString "00" = Str.ofString "1.0") = False := eq_false (by decide +kernel)
@[simp] theorem str_3_9 : (Str.ofString "00" = Str.ofString "--2") = False := eq_false (by decide +kernel)
@[simp] theorem str_3_10 : (Str.ofString "00" = Str.ofString "5-") = False := eq_false (by decide +kernel)
@[simp] theorem str_3_11 : (Str.ofString "00" = Str.ofString "-07") = False := eq_false (by decide +kernel)
@[simp] theorem str_3_12 : (Str.ofString "00" = Str.ofString "1e3") = False := eq_false (by decide +kernel)
@[simp] theorem str_3_13 : (Str.ofString "00" = Str.ofString "0") = False := eq_false (by decide +kernel)
@[simp] theorem str_3_14 : (Str.ofString "00" = Str.ofString "9") = False := eq_false (by decide +kernel)
@[simp] theorem str_3_15 : (Str.ofString "00" = Str.ofString "1") = False := eq_false (by decide +kernel)
@[simp] theorem str_3_16 : (Str.ofString "00" = Str.ofString "7") = False := eq_false (by decide +kernel)
@[simp] theorem str_3_17 : (Str.ofString "00" = Str.ofString " ") = False := eq_false (by decide +kernel)
@[simp] theorem str_3_18 : (Str.ofString "00" = Str.ofString "2") = False := eq_false (by decide +kernel)
@[simp] theorem str_3_19 : (Str.ofString "00" = Str.ofString "3") = False := eq_false (by decide +kernel)
@[simp] theorem str_3_20 : (Str.ofString "00" = Str.ofString "4") = False := eq_false (by decide +kernel)
@[simp] theorem str_3_21 : (Str.ofString "00" = Str.ofString "5") = False := eq_false (by decide +kernel)
@[simp] theorem str_3_22 : (Str.ofString "00" = Str.ofString "'") = False := eq_false (by decide +kernel)
@[simp] theorem str_3_23 : (Str.ofString "00" = Str.ofString "_") = False := eq_false (by decide +kernel)
@[simp] theorem str_3_24 : (Str.ofString "00" = Str.ofString "+") = False := eq_false (by decide +kernel)
@[simp] theorem str_3_25 : (Str.ofString "00" = Str.ofString "a") = False := eq_false (by decide +kernel)
@[simp] theorem str_3_26 : (Str.ofString "00" = Str.ofString "
") = False := eq_false (by decide +kernel)
@[simp] theorem str_3_27 : (Str.ofString "00" = Str.ofString "too many rows") = False := eq_false (by decide +kernel)
@[simp] theorem str_3_28 : (Str.ofString "00" = Str.ofString "no row of this table") = False := eq_false (by decide +kernel)
@[simp] theorem str_3_29 : (Str.ofString "00" = Str.ofString "0123456789") = False := eq_false (by decide +kernel)
@[simp] theorem str_4_0 : (Str.ofString "+1" = Str.ofString "") = False := eq_false (by decide +kernel)
@[simp] theorem str_4_1 : (Str.ofString "+1" = Str.ofString "-") = False := eq_false (by decide +kernel)
@[simp] theorem str_4_2 : (Str.ofString "+1" = Str.ofString "-0") = False := eq_false (by decide +kernel)
@[simp] theorem str_4_3 : (Str.ofString "+1" = Str.ofString "00") = False := eq_false (by decide +kernel)
@[simp] theorem str_4_5 : (Str.ofString "+1" = Str.ofString "1_0") = False := eq_false (by decide +kernel)
@[simp] theorem str_4_6 : (Str.ofString "+1" = Str.ofString "01") = False := eq_false (by decide +kernel)
@[simp] theorem str_4_7 : (Str.ofString "+1" = Str.ofString "x") = False := eq_false (by decide +kernel)
@[simp] theorem str_4_8 : (Str.ofString "+1" = Str.ofString "1.0") = False := eq_false (by decide +kernel)
@[simp] theorem str_4_9 : (Str.ofString "+1" = Str.ofString "--2") = False := eq_false (by decide +kernel)
@[simp] theorem str_4_10 : (Str.ofString "+1" = Str.ofString "5-") = False := eq_false (by decide +kernel)
@[simp] theorem str_4_11 : (Str.ofString "+1" = Str.ofString "-07") = False := eq_false (by decide +kernel)
@[simp] theorem str_4_12 : (Str.ofString "+1" = Str.ofString "1e3") = False := eq_false (by decide +kernel)
@[simp] theorem str_4_13 : (Str.ofString "+1" = Str.ofString "0") = False := eq_false (by decide +kernel)
@[simp] theorem str_4_14 : (Str.ofString "+1" = Str.ofString "9") = False := eq_false (by decide +kernel)
@[simp] theorem str_4_15 : (Str.ofString "+1" = Str.ofString "1") = False := eq_false (by decide +kernel)
@[simp] theorem str_4_16 : (Str.ofString "+1" = Str.ofString "7") = False := eq_false (by decide +kernel)
@[simp] theorem str_4_17 : (Str.ofString "+1" = Str.ofString " ") = False := eq_false (by decide +kernel)
@[simp] theorem str_4_18 : (Str.ofString "+1" = Str.ofString "2") = False := eq_false (by decide +kernel)
@[simp] theorem str_4_19 : (Str.ofString "+1" = Str.ofString "3") = False := eq_false (by decide +kernel)
@[simp] theorem str_4_20 : (Str.ofString "+1" = Str.ofString "4") = False := eq_false (by decide +kernel)
@[simp] theorem str_4_21 : (Str.ofString "+1" = Str.ofString "5") = False := eq_false (by decide +kernel)
@[simp] theorem str_4_22 : (Str.ofString "+1" = Str.ofString "'") = False := eq_false (by decide +kernel)
@[simp] theorem str_4_23 : (Str.ofString "+1" = Str.ofString "_") = False := eq_false (by decide +kernel)
@[simp] theorem str_4_24 : (Str.ofString "+1" = Str.ofString "+") = False := eq_false (by decide +kernel)
@[simp] theorem str_4_25 : (Str.ofString "+1" = Str.ofString "a") = False := eq_false (by decide +kernel)
@[simp] theorem str_4_26 : (Str.ofString "+1" = Str.ofString "
") = False := eq_false (by decide +kernel)
@[simp] theorem str_4_27 : (Str.ofString "+1" = Str.ofString "too many rows") = False := eq_false (by decide +kernel)
@[simp] theorem str_4_28 : (Str.ofString "+1" = Str.ofString "no row of this table") = False := eq_false (by decide +kernel)
@[simp] theorem str_4_29 : (Str.ofString "+1" = Str.ofString "0123456789") = False := eq_false (by decide +kernel)
@[simp] theorem str_5_0 : (Str.ofString "1_0" = Str.ofString "") = False := eq_false (by decide +kernel)
@[simp] theorem str_5_1 : (Str.ofString "1_0" = Str.ofString "-") = False := eq_false (by decide +kernel)
@[simp] theorem str_5_2 : (Str.ofString "1_0" = Str.ofString "-0") = False := eq_false (by decide +kernel)
@[simp] theorem str_5_3 : (Str.ofString "1_0" = Str.ofString "00") = False := eq_false (by decide +kernel)
@[simp] theorem str_5_4 : (Str.ofString "1_0" = Str.ofString "+1") = False := eq_false (by decide +kernel)
@[simp] theorem str_5_6 : (Str.ofString "1_0" = Str.ofString "01") = False := eq_false (by decide +kernel)
@[simp] theorem str_5_7 : (Str.ofString "1_0" = Str.ofString "x") = False := eq_false (by decide +kernel)
@[simp] theorem str_5_8 : (Str.ofString "1_0" = Str.ofString "1.0") = False := eq_false (by decide +kernel)
@[simp] theorem str_5_9 : (Str.ofString "1_0" = Str.ofString "--2") = False := eq_false (by decide +kernel)
@[simp] theorem str_5_10 : (Str.ofString "1_0" = Str.ofString "5-") = False := eq_false (by decide +kernel)
@[simp] theorem str_5_11 : (Str.ofString "1_0" = Str.ofString "-07") = False := eq_false (by decide +kernel)
@[simp] theorem str_5_12 : (Str.ofString "1_0" = Str.ofString "1e3") = False := eq_false (by decide +kernel)
@[simp] theorem str_5_13 : (Str.ofString "1_0" = Str.ofString "0") = False := eq_false (by decide +kernel)
@[simp] theorem str_5_14 : (Str.ofString "1_0" = Str.ofString "9") = False := eq_false (by decide +kernel)
@[simp] theorem str_5_15 : (Str.ofString "1_0" = Str.ofString "1") = False := eq_false (by decide +kernel)
@[simp] theorem str_5_16 : (Str.ofString "1_0" = Str.ofString "7") = False := eq_false (by decide +kernel)
@[simp] theorem str_5_17 : (Str.ofString "1_0" = Str.ofString " ") = False := eq_false (by decide +kernel)
@[simp] theorem str_5_18 : (Str.ofString "1_0" = Str.ofString "2") = False := eq_false (by decide +kernel)
@[simp] theorem str_5_19 : (Str.ofString "1_0" = Str.ofString "3") = False := eq_false (by decide +kernel)
@[simp] theorem str_5_20 : (Str.ofString "1_0" = Str.ofString "4") = False := eq_false (by decide +kernel)
@[simp] theorem str_5_21 : (Str.ofString "1_0" = Str.ofString "5") = False := eq_false (by decide +kernel)
@[simp] theorem str_5_22 : (Str.ofString "1_0" = Str.ofString "'") = False := eq_false (by decide +kernel)
@[simp] theorem str_5_23 : (Str.ofString "1_0" = Str.ofString "_") = False := eq_false (by decide +kernel)
@[simp] theorem str_5_24 : (Str.ofString "1_0" = Str.ofString "+") = False := eq_false (by decide +kernel)
@[simp] theorem str_5_25 : (Str.ofString "1_0" = Str.ofString "a") = False := eq_false (by decide +kernel)
@[simp] theorem str_5_26 : (Str.ofString "1_0" = Str.ofString "
") = False := eq_false (by decide +kernel)
@[simp] theorem str_5_27 : (Str.ofString "1_0" = Str.ofString "too many rows") = False := eq_false (by decide +kernel)
@[simp] theorem str_5_28 : (Str.ofString "1_0" = Str.ofString "no row of this table") = False := eq_false (by decide +kernel)
@[simp] theorem str_5_29 : (Str.ofString "1_0" = Str.ofString "0123456789") = False := eq_false (by decide +kernel)
@[simp] theorem str_6_0 : (Str.ofString "01" = Str.ofString "") = False := eq_false (by decide +kernel)
@[simp] theorem str_6_1 : (Str.ofString "01" = Str.ofString "-") = False := eq_false (by decide +kernel)
@[simp] theorem str_6_2 : (Str.ofString "01" = Str.ofString "-0") = False := eq_false (by decide +kernel)
@[simp] theorem str_6_3 : (Str.ofString "01" = Str.ofString "00") = False := eq_false (by decide +kernel)
@[simp] theorem str_6_4 : (Str.ofString "01" = Str.ofString "+1") = False := eq_false (by decide +kernel)
@[simp] theorem str_6_5 : (Str.ofString "01" = Str.ofString "1_0") = False := eq_false (by decide +kernel)
@[simp] theorem str_6_7 : (Str.ofString "01" = Str.ofString "x") = False := eq_false (by decide +kernel)
@[simp] theorem str_6_8 : (Str.ofString "01" = Str.ofString "1.0") = False := eq_false (by decide +kernel)
@[simp] theorem str_6_9 : (Str.ofString "01" = Str.ofString "--2") = False := eq_false (by decide +kernel)
@[simp] theorem str_6_10 : (Str.ofString "01" = Str.ofString "5-") = False := eq_false (by decide +kernel)
@[simp] theorem str_6_11 : (Str.ofString "01" = Str.ofString "-07") = False := eq_false (by decide +kernel)
@[simp] theorem str_6_12 : (Str.ofString "01" = Str.ofString "1e3") = False := eq_false (by decide +kernel)
@[simp] theorem str_6_13 : (Str.ofString "01" = Str.ofString "0") = False := eq_false (by decide +kernel)
@[simp] theorem str_6_14 : (Str.ofString "01" = Str.ofString "9") = False := eq_false (by decide +kernel)
@[simp] theorem str_6_15 : (Str.ofString "01" = Str.ofString "1") = False := eq_false (by decide +kernel)
@[simp] theorem str_6_16 : (Str.ofString "01" = Str.ofString "7") = False := eq_false (by decide +kernel)
@[simp] theorem str_6_17 : (Str.ofString "01" = Str.ofString " ") = False := eq_false (by decide +kernel)
@[simp] theorem str_6_18 : (Str.ofString "01" = Str.ofString "2") = False := eq_false (by decide +kernel)
@[simp] theorem str_6_19 : (Str.ofString "01" = Str.ofString "3") = False := eq_false (by decide +kernel)
@[simp] theorem str_6_20 : (Str.ofString "01" = Str.ofString "4") = False := eq_false (by decide +kernel)
@[simp] theorem str_6_21 : (Str.ofString "01" = Str.ofString "5") = False := eq_false (by decide +kernel)
@[simp] theorem str_6_22 : (Str.ofString "01" = Str.ofString "'") = False := eq_false (by decide +kernel)
@[simp] theorem str_6_23 : (Str.ofString "01" = Str.ofString "_") = False := eq_false (by decide +kernel)
@[simp] theorem str_6_24 : (Str.ofString "01" = Str.ofString "+") = False := eq_false (by decide +kernel)
@[simp] theorem str_6_25 : (Str.ofString "01" = Str.ofString "a") = False := eq_false (by decide +kernel)
@[simp] theorem str_6_26 : (Str.ofString "01" = Str.ofString "
") = False := eq_false (by decide +kernel)
@[simp] theorem str_6_27 : (Str.ofString "01" = Str.ofString "too many rows") = False := eq_false (by decide +kernel)
@[simp] theorem str_6_28 : (Str.ofString "01" = Str.ofString "no row of this table") = False := eq_false (by decide +kernel)
@[simp] theorem str_6_29 : (Str.ofString "01" = Str.ofString "0123456789") = False := eq_false (by decide +kernel)
@[simp] theorem str_7_0 : (Str.ofString "x" = Str.ofString "") = False := eq_false (by decide +kernel)
@[simp] theorem str_7_1 : (Str.ofString "x" = Str.ofString "-") = False := eq_false (by decide +kernel)
@[simp] theorem str_7_2 : (Str.ofString "x" = Str.ofString "-0") = False := eq_false (by decide +kernel)
@[simp] theorem str_7_3 : (Str.ofString "x" = Str.ofString "00") = False := eq_false (by decide +kernel)
@[simp] theorem str_7_4 : (Str.ofString "x" = Str.ofString "+1") = False := eq_false (by decide +kernel)
@[simp] theorem str_7_5 : (Str.ofString "x" = Str.ofString "1_0") = False := eq_false (by decide +kernel)
@[simp] theorem str_7_6 : (Str.ofString "x" = Str.ofString "01") = False := eq_false (by decide +kernel)
@[simp] theorem str_7_8 : (Str.ofString "x" = Str.ofString "1.0") = False := eq_false (by decide +kernel)
@[simp] theorem str_7_9 : (Str.ofString "x" = Str.ofString "--2") = False := eq_false (by decide +kernel)
@[simp] theorem str_7_10 : (Str.ofString "x" = Str.ofString "5-") = False := eq_false (by decide +kernel)
@[simp] theorem str_7_11 : (Str.ofString "x" = Str.ofString "-07") = False := eq_false (by decide +kernel)
@[simp] theorem str_7_12 : (Str.ofString "x" = Str.ofString "1e3") = False := eq_false (by decide +kernel)
@[simp] theorem str_7_13 : (Str.ofString "x" = Str.ofString "0") = False := eq_false (by decide +kernel)
@[simp] theorem str_7_14 : (Str.ofString "x" = Str.ofString "9") = False := eq_false (by decide +kernel)
@[simp] theorem str_7_15 : (Str.ofString "x" = Str.ofString "1") = False := eq_false (by decide +kernel)
@[simp] theorem str_7_16 : (Str.ofString "x" = Str.ofString "7") = False := eq_false (by decide +kernel)
@[simp] theorem str_7_17 : (Str.ofString "x" = Str.ofString " ") = False := eq_false (by decide +kernel)
@[simp] theorem str_7_18 : (Str.ofString "x" = Str.ofString "2") = False := eq_false (by decide +kernel)
@[simp] theorem str_7_19 : (Str.ofString "x" = Str.ofString "3") = False := eq_false (by decide +kernel)
@[simp] theorem str_7_20 : (Str.ofString "x" = Str.ofString "4") = False := eq_false (by decide +kernel)
@[simp] theorem str_7_21 : (Str.ofString "x" = Str.ofString "5") = False := eq_false (by decide +kernel)
@[simp] theorem str_7_22 : (Str.ofString "x" = Str.ofString "'") = False := eq_false (by decide +kernel)
@[simp] theorem str_7_23 : (Str.ofString "x" = Str.ofString "_") = False := eq_false (by decide +kernel)
@[simp] theorem str_7_24 : (Str.ofString "x" = Str.ofString "+") = False := eq_false (by decide +kernel)
@[simp] theorem str_7_25 : (Str.ofString "x" = Str.ofString "a") = False := eq_false (by decide +kernel)
@[simp] theorem str_7_26 : (Str.ofString "x" = Str.ofString "
") = False := eq_false (by decide +kernel)
@[simp] theorem str_7_27 : (Str.ofString "x" = Str.ofString "too many rows") = False := eq_false (by decide +kernel)
@[simp] theorem str_7_28 : (Str.ofString "x" = Str.ofString "no row of this table") = False := eq_false (by decide +kernel)
@[simp] theorem str_7_29 : (Str.ofString "x" = Str.ofString "0123456789") = False := eq_false (by decide +kernel)
@[simp] theorem str_8_0 : (Str.ofString "1.0" = Str.ofString "") = False := eq_false (by decide +kernel)
@[simp] theorem str_8_1 : (Str.ofString "1.0" = Str.ofString "-") = False := eq_false (by decide +kernel)
@[simp] theorem str_8_2 : (Str.ofString "1.0" = Str.ofString "-0") = False := eq_false (by decide +kernel)
@[simp] theorem str_8_3 : (Str.ofString "1.0" = Str.ofString "00") = False := eq_false (by decide +kernel)
@[simp] theorem str_8_4 : (Str.ofString "1.0" = Str.ofString "+1") = False := eq_false (by decide +kernel)
@[simp] theorem str_8_5 : (Str.ofString "1.0" = Str.ofString "1_0") = False := eq_false (by decide +kernel)
@[simp] theorem str_8_6 : (Str.ofString "1.0" = Str.ofString "01") = False := eq_false (by decide +kernel)
@[simp] theorem str_8_7 : (Str.ofString "1.0" = Str.ofString "x") = False := eq_false (by decide +kernel)
@[simp] theorem str_8_9 : (Str.ofString "1.0" = Str.ofString "--2") = False := eq_false (by decide +kernel)
@[simp] theorem str_8_10 : (Str.ofString "1.0" = Str.ofString "5-") = False := eq_false (by decide +kernel)
@[simp] theorem str_8_11 : (Str.ofString "1.0" = Str.ofString "-07") = False := eq_false (by decide +kernel)
@[simp] theorem str_8_12 : (Str.ofString "1.0" = Str.ofString "1e3") = False := eq_false (by decide +kernel)
@[simp] theorem str_8_13 : (Str.ofString "1.0" = Str.ofString "0") = False := eq_false (by decide +kernel)
@[simp] theorem str_8_14 : (Str.ofString "1.0" = Str.ofString "9") = False := eq_false (by decide +kernel)
@[simp] theorem str_8_15 : (Str.ofString "1.0" = Str.ofString "1") = False := eq_false (by decide +kernel)
@[simp] theorem str_8_16 : (Str.ofString "1.0" = Str.ofString "7") = False := eq_false (by decide +kernel)
@[simp] theorem str_8_17 : (Str.ofString "1.0" = Str.ofString " ") = False := eq_false (by decide +kernel)
@[simp] theorem str_8_18 : (Str.ofString "1.0" = Str.ofString "2") = False := eq_false (by decide +kernel)
@[simp] theorem str_8_19 : (Str.ofString "1.0" = Str.ofString "3") = False := eq_false (by decide +kernel)
@[simp] theorem str_8_20 : (Str.ofString "1.0" = Str.ofString "4") = False := eq_false (by decide +kernel)
@[simp] theorem str_8_21 : (Str.ofString "1.0" = Str.ofString "5") = False := eq_false (by decide +kernel)
@[simp] theorem str_8_22 : (Str.ofString "1.0" = Str.ofString "'") = False := eq_false (by decide +kernel)
@[simp] theorem str_8_23 : (Str.ofString "1.0" = Str.ofString "_") = False := eq_false (by decide +kernel)
@[simp] theorem str_8_24 : (Str.ofString "1.0" = Str.ofString "+") = False := eq_false (by decide +kernel)
@[simp] theorem str_8_25 : (Str.ofString "1.0" = Str.ofString "a") = False := eq_false (by decide +kernel)
@[simp] theorem str_8_26 : (Str.ofString "1.0" = Str.ofString "
") = False := eq_false (by decide +kernel)
@[simp] theorem str_8_27 : (Str.ofString "1.0" = Str.ofString "too many rows") = False := eq_false (by decide +kernel)
@[simp] theorem str_8_28 : (Str.ofString "1.0" = Str.ofString "no row of this table") = False := eq_false (by decide +kernel)
@[simp] theorem str_8_29 : (Str.ofString "1.0" = Str.ofString "0123456789") = False := eq_false (by decide +kernel)
@[simp] theorem str_9_0 : (Str.ofString "--2" = Str.ofString "") = False := eq_false (by decide +kernel)
@[simp] theorem str_9_1 : (Str.ofString "--2" = Str.ofString "-") = False := eq_false (by decide +kernel)
@[simp] theorem str_9_2 : (Str.ofString "--2" = Str.ofString "-0") = False := eq_false (by decide +kernel)
@[simp] theorem str_9_3 : (Str.ofString "--2" = Str.ofString "00") = False := eq_false (by decide +kernel)
@[simp] theorem str_9_4 : (Str.ofString "--2" = Str.ofString "+1") = False := eq_false (by decide +kernel)
@[simp] theorem str_9_5 : (Str.ofString "--2" = Str.ofString "1_0") = False := eq_false (by decide +kernel)
@[simp] theorem str_9_6 : (Str.ofString "--2" = Str.ofString "01") = False := eq_false (by decide +kernel)
@[simp] theorem str_9_7 : (Str.ofString "--2" = Str.ofString "x") = False := eq_false (by decide +kernel)
@[simp] theorem str_9_8 : (Str.ofString "--2" = Str.ofString "1.0") = False := eq_false (by decide +kernel)
@[simp] theorem str_9_10 : (Str.ofString "--2" = Str.ofString "5-") = False := eq_false (by decide +kernel)
@[simp] theorem str_9_11 : (Str.ofString "--2" = Str.ofString "-07") = False := eq_false (by decide +kernel)
@[simp] theorem str_9_12 : (Str.ofString "--2" = Str.ofString "1e3") = False := eq_false (by decide +kernel)
@[simp] theorem str_9_13 : (Str.ofString "--2" = Str.ofString "0") = False := eq_false (by decide +kernel)
@[simp] theorem str_9_14 : (Str.ofString "--2" = Str.ofString "9") = False := eq_false (by decide +kernel)
@[simp] theorem str_9_15 : (Str.ofString "--2" = Str.ofString "1") = False := eq_false (by decide +kernel)
@[simp] theorem str_9_16 : (Str.ofString "--2" = Str.ofString "7") = False := eq_false (by decide +kernel)
@[simp] theorem str_9_17 : (Str.ofString "--2" = Str.ofString " ") = False := eq_false (by decide +kernel)
@[simp] theorem str_9_18 : (Str.ofString "--2" = Str.ofString "2") = False := eq_false (by decide +kernel)
@[simp] theorem str_9_19 : (Str.ofString "--2" = Str.ofString "3") = False := eq_false (by decide +kernel)
@[simp] theorem str_9_20 : (Str.ofString "--2" = Str.ofString "4") = False := eq_false (by decide +kernel)
@[simp] theorem str_9_21 : (Str.ofString "--2" = Str.ofString "5") = False := eq_false (by decide +kernel)
@[simp] theorem str_9_22 : (Str.ofString "--2" = Str.ofString "'") = False := eq_false (by decide +kernel)
@[simp] theorem str_9_23 : (Str.ofString "--2" = Str.ofString "_") = False := eq_false (by decide +kernel)
@[simp] theorem str_9_24 : (Str.ofString "--2" = Str.ofString "+") = False := eq_false (by decide +kernel)
@[simp] theorem str_9_25 : (Str.ofString "--2" = Str.ofString "a") = False := eq_false (by decide +kernel)
@[simp] theorem str_9_26 : (Str.ofString "--2" = Str.ofString "
") = False := eq_false (by decide +kernel)
@[simp] theorem str_9_27 : (Str.ofString "--2" = Str.ofString "too many rows") = False := eq_false (by decide +kernel)
@[simp] theorem str_9_28 : (Str.ofString "--2" = Str.ofString "no row of this table") = False := eq_false (by decide +kernel)
@[simp] theorem str_9_29 : (Str.ofString "--2" = Str.ofString "0123456789") = False := eq_false (by decide +kernel)
@[simp] theorem str_10_0 : (Str.ofString "5-" = Str.ofString "") = False := eq_false (by decide +kernel)
@[simp] theorem str_10_1 : (Str.ofString "5-" = Str.ofString "-") = False := eq_false (by decide +kernel)
@[simp] theorem str_10_2 : (Str.ofString "5-" = Str.ofString "-0") = False := eq_false (by decide +kernel)
@[simp] theorem str_10_3 : (Str.ofString "5-" = Str.ofString "00") = False := eq_false (by decide +kernel)
@[simp] theorem str_10_4 : (Str.ofString "5-" = Str.ofString "+1") = False := eq_false (by decide +kernel)
@[simp] theorem str_10_5 : (Str.ofString "5-" = Str.ofString "1_0") = False := eq_false (by decide +kernel)
@[simp] theorem str_10_6 : (Str.ofString "5-" = Str.ofString "01") = False := eq_false (by decide +kernel)
@[simp] theorem str_10_7 : (Str.ofString "5-" = Str.ofString "x") = False := eq_false (by decide +kernel)
@[simp] theorem str_10_8 : (Str.ofString "5-" = Str.ofString "1.0") = False := eq_false (by decide +kernel)
@[simp] theorem str_10_9 : (Str.ofString "5-" = Str.ofString "--2") = False := eq_false (by decide +kernel)
@[simp] theorem str_10_11 : (Str.ofString "5-" = Str.ofString "-07") = False := eq_false (by decide +kernel)
@[simp] theorem str_10_12 : (Str.ofString "5-" = Str.ofString "1e3") = False := eq_false (by decide +kernel)
@[simp] theorem str_10_13 : (Str.ofString "5-" = Str.ofString "0") = False := eq_false (by decide +kernel)
@[simp] theorem str_10_14 : (Str.ofString "5-" = Str.ofString "9") = False := eq_false (by decide +kernel)
@[simp] theorem str_10_15 : (Str.ofString "5-" = Str.ofString "1") = False := eq_false (by decide +kernel)
@[simp] theorem str_10_16 : (Str.ofString "5-" = Str.ofString "7") = False := eq_false (by decide +kernel)
@[simp] theorem str_10_17 : (Str.ofString "5-" = Str.ofString " ") = False := eq_false (by decide +kernel)
@[simp] theorem str_10_18 : (Str.ofString "5-" = Str.ofString "2") = False := eq_false (by decide +kernel)
@[simp] theorem str_10_19 : (Str.ofString "5-" = Str.ofString "3") = False := eq_false (by decide +kernel)
@[simp] theorem str_10_20 : (Str.ofString "5-" = Str.ofString "4") = False := eq_false (by decide +kernel)
@[simp] theorem str_10_21 : (Str.ofString "5-" = Str.ofString "5") = False := eq_false (by decide +kernel)
@[simp] theorem str_10_22 : (Str.ofString "5-" = Str.ofString "'") = False := eq_false (by decide +kernel)
@[simp] theorem str_10_23 : (Str.ofString "5-" = Str.ofString "_") = False := eq_false (by decide +kernel)
@[simp] theorem str_10_24 : (Str.ofString "5-" = Str.ofString "+") = False := eq_false (by decide +kernel)
@[simp] theorem str_10_25 : (Str.ofString "5-" = Str.ofString "a") = False := eq_false (by decide +kernel)
@[simp] theorem str_10_26 : (Str.ofString "5-" = Str.ofString "
") = False := eq_false (by decide +kernel)
@[simp] theorem str_10_27 : (Str.ofString "5-" = Str.ofString "too many rows") = False := eq_false (by decide +kernel)
@[simp] theorem str_10_28 : (Str.ofString "5-" = Str.ofString "no row of this table") = False := eq_false (by decide +kernel)
@[simp] theorem str_10_29 : (Str.ofString "5-" = Str.ofString "0123456789") = False := eq_false (by decide +kernel)
@[simp] theorem str_11_0 : (Str.ofString "-07" = Str.ofString "") = False := eq_false (by decide +kernel)
@[simp] theorem str_11_1 : (Str.ofString "-07" = Str.ofString "-") = False := eq_false (by decide +kernel)
@[simp] theorem str_11_2 : (Str.ofString "-07" = Str.ofString "-0") = False := eq_false (by decide +kernel)
@[simp] theorem str_11_3 : (Str.ofString "-07" = Str.ofString "00") = False := eq_false (by decide +kernel)
@[simp] theorem str_11_4 : (Str.ofString "-07" = Str.ofString "+1") = False := eq_false (by decide +kernel)
@[simp] theorem str_11_5 : (Str.ofString "-07" = Str.ofString "1_0") = False := eq_false (by decide +kernel)
@[simp] theorem str_11_6 : (Str.ofString "-07" = Str.ofString "01") = False := eq_false (by decide +kernel)
@[simp] theorem str_11_7 : (Str.ofString "-07" = Str.ofString "x") = False := eq_false (by decide +kernel)
@[simp] theorem str_11_8 : (Str.ofString "-07" = Str.ofString "1.0") = False := eq_false (by decide +kernel)
@[simp] theorem str_11_9 : (Str.ofString "-07" = Str.ofString "--2") = False := eq_false (by decide +kernel)
@[simp] theorem str_11_10 : (Str.ofString "-07" = Str.ofString "5-") = False := eq_false (by decide +kernel)
@[simp] theorem str_11_12 : (Str.ofString "-07" = Str.ofString "1e3") = False := eq_false (by decide +kernel)
@[simp] theorem str_11_13 : (Str.ofString "-07" = Str.ofString "0") = False := eq_false (by decide +kernel)
@[simp] theorem str_11_14 : (Str.ofString "-07" = Str.ofString "9") = False := eq_false (by decide +kernel)
@[simp] theorem str_11_15 : (Str.ofString "-07" = Str.ofString "1") = False := eq_false (by decide +kernel)
@[simp] theorem str_11_16 : (Str.ofString "-07" = Str.ofString "7") = False := eq_false (by decide +kernel)
@[simp] theorem str_11_17 : (Str.ofString "-07" = Str.ofString " ") = False := eq_false (by decide +kernel)
@[simp] theorem str_11_18 : (Str.ofString "-07" = Str.ofString "2") = False := eq_false (by decide +kernel)
@[simp] theorem str_11_19 : (Str.ofString "-07" = Str.ofString "3") = False := eq_false (by decide +kernel)
@[simp] theorem str_11_20 : (Str.ofString "-07" = Str.ofString "4") = False := eq_false (by decide +kernel)
@[simp] theorem str_11_21 : (Str.ofString "-07" = Str.ofString "5") = False := eq_false (by decide +kernel)
@[simp] theorem str_11_22 : (Str.ofString "-07" = Str.ofString "'") = False := eq_false (by decide +kernel)
@[simp] theorem str_11_23 : (Str.ofString "-07" = Str.ofString "_") = False := eq_false (by decide +kernel)
@[simp] theorem str_11_24 : (Str.ofString "-07" = Str.ofString "+") = False := eq_false (by decide +kernel)
@[simp] theorem str_11_25 : (Str.ofString "-07" = Str.ofString "a") = False := eq_false (by decide +kernel)
@[simp] theorem str_11_26 : (Str.ofString "-07" = Str.ofString "
") = False := eq_false (by decide +kernel)
@[simp] theorem str_11_27 : (Str.ofString "-07" = Str.ofString "too many rows") = False := eq_false (by decide +kernel)
@[simp] theorem str_11_28 : (Str.ofString "-07" = Str.ofString "no row of this table") = False := eq_false (by decide +kernel)
@[simp] theorem str_11_29 : (Str.ofString "-07" = Str.ofString "0123456789") = False := eq_false (by decide +kernel)
@[simp] theorem str_12_0 : (Str.ofString "1e3" = Str.ofString "") = False := eq_false (by decide +kernel)
@[simp] theorem str_12_1 : (Str.ofString "1e3" = Str.ofString "-") = False := eq_false (by decide +kernel)
@[simp] theorem str_12_2 : (Str.ofString "1e3" = Str.ofString "-0") = False := eq_false (by decide +kernel)
@[simp] theorem str_12_3 : (Str.ofString "1e3" = Str.ofString "00") = False := eq_false (by decide +kernel)
@[simp] theorem str_12_4 : (Str.ofString "1e3" = Str.ofString "+1") = False := eq_false (by decide +kernel)
@[simp] theorem str_12_5 : (Str.ofString "1e3" = Str.ofString "1_0") = False := eq_false (by decide +kernel)
@[simp] theorem str_12_6 : (Str.ofString "1e3" = Str.ofString "01") = False := eq_false (by decide +kernel)
@[simp] theorem str_12_7 : (Str.ofString "1e3" = Str.ofString "x") = False := eq_false (by decide +kernel)
@[simp] theorem str_12_8 : (Str.ofString "1e3" = Str.ofString "1.0") = False := eq_false (by decide +kernel)
@[simp] theorem str_12_9 : (Str.ofString "1e3" = Str.ofString "--2") = False := eq_false (by decide +kernel)
@[simp] theorem str_12_10 : (Str.ofString "1e3" = Str.ofString "5-") = False := eq_false (by decide +kernel)
@[simp] theorem str_12_11 : (Str.ofString "1e3" = Str.ofString "-07") = False := eq_false (by decide +kernel)
@[simp] theorem str_12_13 : (Str.ofString "1e3" = Str.ofString "0") = False := eq_false (by decide +kernel)
@[simp] theorem str_12_14 : (Str.ofString "1e3" = Str.ofString "9") = False := eq_false (by decide +kernel)
@[simp] theorem str_12_15 : (Str.ofString "1e3" = Str.ofString "1") = False := eq_false (by decide +kernel)
@[simp] theorem str_12_16 : (Str.ofString "1e3" = Str.ofString "7") = False := eq_false (by decide +kernel)
@[simp] theorem str_12_17 : (Str.ofString "1e3" = Str.ofString " ") = False := eq_false (by decide +kernel)
@[simp] theorem str_12_18 : (Str.ofString "1e3" = Str.ofString "2") = False := eq_false (by decide +kernel)
@[simp] theorem str_12_19 : (Str.ofString "1e3" = Str.ofString "3") = False := eq_false (by decide +kernel)
@[simp] theorem str_12_20 : (Str.ofString "1e3" = Str.ofString "4") = False := eq_false (by decide +kernel)
@[simp] theorem str_12_21 : (Str.ofString "1e3" = Str.ofString "5") = False := eq_false (by decide +kernel)
@[simp] theorem str_12_22 : (Str.ofString "1e3" = Str.ofString "'") = False := eq_false (by decide +kernel)
@[simp] theorem str_12_23 : (Str.ofString "1e3" = Str.ofString "_") = False := eq_false (by decide +kernel)
@[simp] theorem str_12_24 : (Str.ofString "1e3" = Str.ofString "+") = False := eq_false (by decide +kernel)
@[simp] theorem str_12_25 : (Str.ofString "1e3" = Str.ofString "a") = False := eq_false (by decide +kernel)
@[simp] theorem str_12_26 : (Str.ofString "1e3" = Str.ofString "
") = False := eq_false (by decide +kernel)
@[simp] theorem str_12_27 : (Str.ofString "1e3" = Str.ofString "too many rows") = False := eq_false (by decide +kernel)
@[simp] theorem str_12_28 : (Str.ofString "1e3" = Str.ofString "no row of this table") = False := eq_false (by decide +kernel)
@[simp] theorem str_12_29 : (Str.ofString "1e3" = Str.ofString "0123456789") = False := eq_false (by decide +kernel)
@[simp] theorem str_13_0 : (Str.ofString "0" = Str.ofString "") = False := eq_false (by decide +kernel)
@[simp] theorem str_13_1 : (Str.ofString "0" = Str.ofString "-") = False := eq_false (by decide +kernel)
@[simp] theorem str_13_2 : (Str.ofString "0" = Str.ofString "-0") = False := eq_false (by decide +kernel)
@[simp] theorem str_13_3 : (Str.ofString "0" = Str.ofString "00") = False := eq_false (by decide +kernel)
@[simp] theorem str_13_4 : (Str.ofString "0" = Str.ofString "+1") = False := eq_false (by decide +kernel)
@[simp] theorem str_13_5 : (Str.ofString "0" = Str.ofString "1_0") = False := eq_false (by decide +kernel)
@[simp] theorem str_13_6 : (Str.ofString "0" = Str.ofString "01") = False := eq_false (by decide +kernel)
@[simp] theorem str_13_7 : (Str.ofString "0" = Str.ofString "x") = False := eq_false (by decide +kernel)
@[simp] theorem str_13_8 : (Str.ofString "0" = Str.ofString "1.0") = False := eq_false (by decide +kernel)
@[simp] theorem str_13_9 : (Str.ofString "0" = Str.ofString "--2") = False := eq_false (by decide +kernel)
@[simp] theorem str_13_10 : (Str.ofString "0" = Str.ofString "5-") = False := eq_false (by decide +kernel)
@[simp] theorem str_13_11 : (Str.ofString "0" = Str.ofString "-07") = False := eq_false (by decide +kernel)
@[simp] theorem str_13_12 : (Str.ofString "0" = Str.ofString "1e3") = False := eq_false (by decide +kernel)
@[simp] theorem str_13_14 : (Str.ofString "0" = Str.ofString "9") = False := eq_false (by decide +kernel)
@[simp] theorem str_13_15 : (Str.ofString "0" = Str.ofString "1") = False := eq_false (by decide +kernel)
@[simp] theorem str_13_16 : (Str.ofString "0" = Str.ofString "7") = False := eq_false (by decide +kernel)
@[simp] theorem str_13_17 : (Str.ofString "0" = Str.ofString " ") = False := eq_false (by decide +kernel)
@[simp] theorem str_13_18 : (Str.ofString "0" = Str.ofString "2") = False := eq_false (by decide +kernel)
@[simp] theorem str_13_19 : (Str.ofString "0" = Str.ofString "3") = False := eq_false (by decide +kernel)
@[simp] theorem str_13_20 : (Str.ofString "0" = Str.ofString "4") = False := eq_false (by decide +kernel)
@[simp] theorem str_13_21 : (Str.ofString "0" = Str.ofString "5") = False := eq_false (by decide +kernel)
@[simp] theorem str_13_22 : (Str.ofString "0" = Str.ofString "'") = False := eq_false (by decide +kernel)
@[simp] theorem str_13_23 : (Str.ofString "0" = Str.ofString "_") = False := eq_false (by decide +kernel)
@[simp] theorem str_13_24 : (Str.ofString "0" = Str.ofString "+") = False := eq_false (by decide +kernel)
@[simp] theorem str_13_25 : (Str.ofString "0" = Str.ofString "a") = False := eq_false (by decide +kernel)
@[simp] theorem str_13_26 : (Str.ofString "0" = Str.ofString "
") = False := eq_false (by decide +kernel)
@[simp] theorem str_13_27 : (Str.ofString "0" = Str.ofString "too many rows") = False := eq_false (by decide +kernel)
@[simp] theorem str_13_28 : (Str.ofString "0" = Str.ofString "no row of this table") = False := eq_false (by decide +kernel)
@[simp] theorem str_13_29 : (Str.ofString "0" = Str.ofString "0123456789") = False := eq_false (by decide +kernel)
@[simp] theorem str_14_0 : (Str.ofString "9" = Str.ofString "") = False := eq_false (by decide +kernel)
@[simp] theorem str_14_1 : (Str.ofString "9" = Str.ofString "-") = False := eq_false (by decide +kernel)
@[simp] theorem str_14_2 : (Str.ofString "9" = Str.ofString "-0") = False := eq_false (by decide +kernel)
@[simp] theorem str_14_3 : (Str.ofString "9" = Str.ofString "00") = False := eq_false (by decide +kernel)
@[simp] theorem str_14_4 : (Str.ofString "9" = Str.ofString "+1") = False := eq_false (by decide +kernel)
@[simp] theorem str_14_5 : (Str.ofString "9" = Str.ofString "1_0") = False := eq_false (by decide +kernel)
@[simp] theorem str_14_6 : (Str.ofString "9" = Str.ofString "01") = False := eq_false (by decide +kernel)
@[simp] theorem str_14_7 : (Str.ofString "9" = Str.ofString "x") = False := eq_false (by decide +kernel)
@[simp] theorem str_14_8 : (Str.ofString "9" = Str.ofString "1.0") = False := eq_false (by decide +kernel)
@[simp] theorem str_14_9 : (Str.ofString "9" = Str.ofString "--2") = False := eq_false (by decide +kernel)
@[simp] theorem str_14_10 : (Str.ofString "9" = Str.ofString "5-") = False := eq_false (by decide +kernel)
@[simp] theorem str_14_11 : (Str.ofString "9" = Str.ofString "-07") = False := eq_false (by decide +kernel)
@[simp] theorem str_14_12 : (Str.ofString "9" = Str.ofString "1e3") = False := eq_false (by decide +kernel)
@[simp] theorem str_14_13 : (Str.ofString "9" = Str.ofString "0") = False := eq_false (by decide +kernel)
@[simp] theorem str_14_15 : (Str.ofString "9" = Str.ofString "1") = False := eq_false (by decide +kernel)
@[simp] theorem str_14_16 : (Str.ofString "9" = Str.ofString "7") = False := eq_false (by decide +kernel)
@[simp] theorem str_14_17 : (Str.ofString "9" = Str.ofString " ") = False := eq_false (by decide +kernel)
@[simp] theorem str_14_18 : (Str.ofString "9" = Str.ofString "2") = False := eq_false (by decide +kernel)
@[simp] theorem str_14_19 : (Str.ofString "9" = Str.ofString "3") = False := eq_false (by decide +kernel)
@[simp] theorem str_14_20 : (Str.ofString "9" = Str.ofString "4") = False := eq_false (by decide +kernel)
@[simp] theorem str_14_21 : (Str.ofString "9" = Str.ofString "5") = False := eq_false (by decide +kernel)
@[simp] theorem str_14_22 : (Str.ofString "9" = Str.ofString "'") = False := eq_false (by decide +kernel)
@[simp] theorem str_14_23 : (Str.ofString "9" = Str.ofString "_") = False := eq_false (by decide +kernel)
@[simp] theorem str_14_24 : (Str.ofString "9" = Str.ofString "+") = False := eq_false (by decide +kernel)
@[simp] theorem str_14_25 : (Str.ofString "9" = Str.ofString "a") = False := eq_false (by decide +kernel)
@[simp] theorem str_14_26 : (Str.ofString "9" = Str.ofString "
") = False := eq_false (by decide +kernel)
@[simp] theorem str_14_27 : (Str.ofString "9" = Str.ofString "too many rows") = False := eq_false (by decide +kernel)
@[simp] theorem str_14_28 : (Str.ofString "9" = Str.ofString "no row of this table") = False := eq_false (by decide +kernel)
@[simp] theorem str_14_29 : (Str.ofString "9" = Str.ofString "0123456789") = False := eq_false (by decide +kernel)
@[simp] theorem str_15_0 : (Str.ofString "1" = Str.ofString "") = False := eq_false (by decide +kernel)
@[simp] theorem str_15_1 : (Str.ofString "1" = Str.ofString "-") = False := eq_false (by decide +kernel)
@[simp] theorem str_15_2 : (Str.ofString "1" = Str.ofString "-0") = False := eq_false (by decide +kernel)
@[simp] theorem str_15_3 : (Str.ofString "1" = Str.ofString "00") = False := eq_false (by decide +kernel)
@[simp] theorem str_15_4 : (Str.ofString "1" = Str.ofString "+1") = False := eq_false (by decide +kernel)
@[simp] theorem str_15_5 : (Str.ofString "1" = Str.ofString "1_0") = False := eq_false (by decide +kernel)
@[simp] theorem str_15_6 : (Str.ofString "1" = Str.ofString "01") = False := eq_false (by decide +kernel)
@[simp] theorem str_15_7 : (Str.ofString "1" = Str.ofString "x") = False := eq_false (by decide +kernel)
@[simp] theorem str_15_8 : (Str.ofString "1" = Str.ofString "1.0") = False := eq_false (by decide +kernel)
@[simp] theorem str_15_9 : (Str.ofString "1" = Str.ofString "--2") = False := eq_false (by decide +kernel)
@[simp] theorem str_15_10 : (Str.ofString "1" = Str.ofString "5-") = False := eq_false (by decide +kernel)
@[simp] theorem str_15_11 : (Str.ofString "1" = Str.ofString "-07") = False := eq_false (by decide +kernel)
@[simp] theorem str_15_12 : (Str.ofString "1" = Str.ofString "1e3") = False := eq_false (by decide +kernel)
@[simp] theorem str_15_13 : (Str.ofString "1" = Str.ofString "0") = False := eq_false (by decide +kernel)
@[simp] theorem str_15_14 : (Str.ofString "1" = Str.ofString "9") = False := eq_false (by decide +kernel)
@[simp] theorem str_15_16 : (Str.ofString "1" = Str.ofString "7") = False := eq_false (by decide +kernel)
@[simp] theorem str_15_17 : (Str.ofString "1" = Str.ofString " ") = False := eq_false (by decide +kernel)
@[simp] theorem str_15_18 : (Str.ofString "1" = Str.ofString "2") = False := eq_false (by decide +kernel)
@[simp] theorem str_15_19 : (Str.ofString "1" = Str.ofString "3") = False := eq_false (by decide +kernel)
@[simp] theorem str_15_20 : (Str.ofString "1" = Str.ofString "4") = False := eq_false (by decide +kernel)
@[simp] theorem str_15_21 : (Str.ofString "1" = Str.ofString "5") = False := eq_false (by decide +kernel)
@[simp] theorem str_15_22 : (Str.ofString "1" = Str.ofString "'") = False := eq_false (by decide +kernel)
@[simp] theorem str_15_23 : (Str.ofString "1" = Str.ofString "_") = False := eq_false (by decide +kernel)
@[simp] theorem str_15_24 : (Str.ofString "1" = Str.ofString "+") = False := eq_false (by decide +kernel)
@[simp] theorem str_15_25 : (Str.ofString "1" = Str.ofString "a") = False := eq_false (by decide +kernel)
@[simp] theorem str_15_26 : (Str.ofString "1" = Str.ofString "
") = False := eq_false (by decide +kernel)
@[simp] theorem str_15_27 : (Str.ofString "1" = Str.ofString "too many rows") = False := eq_false (by decide +kernel)
@[simp] theorem str_15_28 : (Str.ofString "1" = Str.ofString "no row of this table") = False := eq_false (by decide +kernel)
@[simp] theorem str_15_29 : (Str.ofString "1" = Str.ofString "0123456789") = False := eq_false (by decide +kernel)
@[simp] theorem str_16_0 : (Str.ofString "7" = Str.ofString "") = False := eq_false (by decide +kernel)
@[simp] theorem str_16_1 : (Str.ofString "7" = Str.ofString "-") = False := eq_false (by decide +kernel)
@[simp] theorem str_16_2 : (Str.ofString "7" = Str.ofString "-0") = False := eq_false (by decide +kernel)
@[simp] theorem str_16_3 : (Str.ofString "7" = Str.ofString "00") = False := eq_false (by decide +kernel)
@[simp] theorem str_16_4 : (Str.ofString "7" = Str.ofString "+1") = False := eq_false (by decide +kernel)
@[simp] theorem str_16_5 : (Str.ofString "7" = Str.ofString "1_0") = False := eq_false (by decide +kernel)
@[simp] theorem str_16_6 : (Str.ofString "7" = Str.ofString "01") = False := eq_false (by decide +kernel)
@[simp] theorem str_16_7 : (Str.ofString "7" = Str.ofString "x") = False := eq_false (by decide +kernel)
@[simp] theorem str_16_8 : (Str.ofString "7" = Str.ofString "1.0") = False := eq_false (by decide +kernel)
@[simp] theorem str_16_9 : (Str.ofString "7" = Str.ofString "--2") = False := eq_false (by decide +kernel)
@[simp] theorem str_16_10 : (Str.ofString "7" = Str.ofString "5-") = False := eq_false (by decide +kernel)
@[simp] theorem str_16_11 : (Str.ofString "7" = Str.ofString "-07") = False := eq_false (by decide +kernel)
@[simp] theorem str_16_12 : (Str.ofString "7" = Str.ofString "1e3") = False := eq_false (by decide +kernel)
@[simp] theorem str_16_13 : (Str.ofString "7" = Str.ofString "0") = False := eq_false (by decide +kernel)
@[simp] theorem str_16_14 : (Str.ofString "7" = Str.ofString "9") = False := eq_false (by decide +kernel)
@[simp] theorem str_16_15 : (Str.ofString "7" = Str.ofString "1") = False := eq_false (by decide +kernel)
@[simp] theorem str_16_17 : (Str.ofString "7" = Str.ofString " ") = False := eq_false (by decide +kernel)
@[simp] theorem str_16_18 : (Str.ofString "7" = Str.ofString "2") = False := eq_false (by decide +kernel)
@[simp] theorem str_16_19 : (Str.ofString "7" = Str.ofString "3") = False := eq_false (by decide +kernel)
@[simp] theorem str_16_20 : (Str.ofString "7" = Str.ofString "4") = False := eq_false (by decide +kernel)
@[simp] theorem str_16_21 : (Str.ofString "7" = Str.ofString "5") = False := eq_false (by decide +kernel)
@[simp] theorem str_16_22 : (Str.ofString "7" = Str.ofString "'") = False := eq_false (by decide +kernel)
@[simp] theorem str_16_23 : (Str.ofString "7" = Str.ofString "_") = False := eq_false (by decide +kernel)
@[simp] theorem str_16_24 : (Str.ofString "7" = Str.ofString "+") = False := eq_false (by decide +kernel)
@[simp] theorem str_16_25 : (Str.ofString "7" = Str.ofString "a") = False := eq_false (by decide +kernel)
@[simp] theorem str_16_26 : (Str.ofString "7" = Str.ofString "
") = False := eq_false (by decide +kernel)
@[simp] theorem str_16_27 : (Str.ofString "7" = Str.ofString "too many rows") = False := eq_false (by decide +kernel)
@[simp] theorem str_16_28 : (Str.ofString "7" = Str.ofString "no row of this table") = False := eq_false (by decide +kernel)
@[simp] theorem str_16_29 : (Str.ofString "7" = Str.ofString "0123456789") = False := eq_false (by decide +kernel)
@[simp] theorem str_17_0 : (Str.ofString " " = Str.ofString "") = False := eq_false (by decide +kernel)
@[simp] theorem str_17_1 : (Str.ofString " " = Str.ofString "-") = False := eq_false (by decide +kernel)
@[simp] theorem str_17_2 : (Str.ofString " " = Str.ofString "-0") = False := eq_false (by decide +kernel)
@[simp] theorem str_17_3 : (Str.ofString " " = Str.ofString "00") = False := eq_false (by decide +kernel)
@[simp] theorem str_17_4 : (Str.ofString " " = Str.ofString "+1") = False := eq_false (by decide +kernel)
@[simp] theorem str_17_5 : (Str.ofString " " = Str.ofString "1_0") = False := eq_false (by decide +kernel)
@[simp] theorem str_17_6 : (Str.ofString " " = Str.ofString "01") = False := eq_false (by decide +kernel)
@[simp] theorem str_17_7 : (Str.ofString " " = Str.ofString "x") = False := eq_false (by decide +kernel)
@[simp] theorem str_17_8 : (Str.ofString " " = Str.ofString "1.0") = False := eq_false (by decide +kernel)
@[simp] theorem str_17_9 : (Str.ofString " " = Str.ofString "--2") = False := eq_false (by decide +kernel)
@[simp] theorem str_17_10 : (Str.ofString " " = Str.ofString "5-") = False := eq_false (by decide +kernel)
@[simp] theorem str_17_11 : (Str.ofString " " = Str.ofString "-07") = False := eq_false (by decide +kernel)
@[simp] theorem str_17_12 : (Str.ofString " " = Str.ofString "1e3") = False := eq_false (by decide +kernel)
@[simp] theorem str_17_13 : (Str.ofString " " = Str.ofString "0") = False := eq_false (by decide +kernel)
@[simp] theorem str_17_14 : (Str.ofString " " = Str.ofString "9") = False := eq_false (by decide +kernel)
@[simp] theorem str_17_15 : (Str.ofString " " = Str.ofString "1") = False := eq_false (by decide +kernel)
@[simp] theorem str_17_16 : (Str.ofString " " = Str.ofString "7") = False := eq_false (by decide +kernel)
@[simp] theorem str_17_18 : (Str.ofString " " = Str.ofString "2") = False := eq_false (by decide +kernel)
@[simp] theorem str_17_19 : (Str.ofString " " = Str.ofString "3") = False := eq_false (by decide +kernel)
@[simp] theorem str_17_20 : (Str.ofString " " = Str.ofString "4") = False := eq_false (by decide +kernel)
@[simp] theorem str_17_21 : (Str.ofString " " = Str.ofString "5") = False := eq_false (by decide +kernel)
@[simp] theorem str_17_22 : (Str.ofString " " = Str.ofString "'") = False := eq_false (by decide +kernel)
@[simp] theorem str_17_23 : (Str.ofString " " = Str.ofString "_") = False := eq_false (by decide +kernel)
@[simp] theorem str_17_24 : (Str.ofString " " = Str.ofString "+") = False := eq_false (by decide +kernel)
@[simp] theorem str_17_25 : (Str.ofString " " = Str.ofString "a") = False := eq_false (by decide +kernel)
@[simp] theorem str_17_26 : (Str.ofString " " = Str.ofString "
") = False := eq_false (by decide +kernel)
@[simp] theorem str_17_27 : (Str.ofString " " = Str.ofString "too many rows") = False := eq_false (by decide +kernel)
@[simp] theorem str_17_28 : (Str.ofString " " = Str.ofString "no row of this table") = False := eq_false (by decide +kernel)
@[simp] theorem str_17_29 : (Str.ofString " " = Str.ofString "0123456789") = False := eq_false (by decide +kernel)
@[simp] theorem str_18_0 : (Str.ofString "2" = Str.ofString "") = False := eq_false (by decide +kernel)
@[simp] theorem str_18_1 : (Str.ofString "2" = Str.ofString "-") = False := eq_false (by decide +kernel)
@[simp] theorem str_18_2 : (Str.ofString "2" = Str.ofString "-0") = False := eq_false (by decide +kernel)
@[simp] theorem str_18_3 : (Str.ofString "2" = Str.ofString "00") = False := eq_false (by decide +kernel)
@[simp] theorem str_18_4 : (Str.ofString "2" = Str.ofString "+1") = False := eq_false (by decide +kernel)
@[simp] theorem str_18_5 : (Str.ofString "2" = Str.ofString "1_0") = False := eq_false (by decide +kernel)
@[simp] theorem str_18_6 : (Str.ofString "2" = Str.ofString "01") = False := eq_false (by decide +kernel)
@[simp] theorem str_18_7 : (Str.ofString "2" = Str.ofString "x") = False := eq_false (by decide +kernel)
@[simp] theorem str_18_8 : (Str.ofString "2" = Str.ofString "1.0") = False := eq_false (by decide +kernel)
@[simp] theorem str_18_9 : (Str.ofString "2" = Str.ofString "--2") = False := eq_false (by decide +kernel)
@[simp] theorem str_18_10 : (Str.ofString "2" = Str.ofString "5-") = False := eq_false (by decide +kernel)
@[simp] theorem str_18_11 : (Str.ofString "2" = Str.ofString "-07") = False := eq_false (by decide +kernel)
@[simp] theorem str_18_12 : (Str.ofString "2" = Str.ofString "1e3") = False := eq_false (by decide +kernel)
@[simp] theorem str_18_13 : (Str.ofString "2" = Str.ofString "0") = False := eq_false (by decide +kernel)
@[simp] theorem str_18_14 : (Str.ofString "2" = Str.ofString "9") = False := eq_false (by decide +kernel)
@[simp] theorem str_18_15 : (Str.ofString "2" = Str.ofString "1") = False := eq_false (by decide +kernel)
@[simp] theorem str_18_16 : (Str.ofString "2" = Str.ofString "7") = False := eq_false (by decide +kernel)
@[simp] theorem str_18_17 : (Str.ofString "2" = Str.ofString " ") = False := eq_false (by decide +kernel)
@[simp] theorem str_18_19 : (Str.ofString "2" = Str.ofString "3") = False := eq_false (by decide +kernel)
@[simp] theorem str_18_20 : (Str.ofString "2" = Str.ofString "4") = False := eq_false (by decide +kernel)
@[simp] theorem str_18_21 : (Str.ofString "2" = Str.ofString "5") = False := eq_false (by decide +kernel)
@[simp] theorem str_18_22 : (Str.ofString "2" = Str.ofString "'") = False := eq_false (by decide +kernel)
@[simp] theorem str_18_23 : (Str.ofString "2" = Str.ofString "_") = False := eq_false (by decide +kernel)
@[simp] theorem str_18_24 : (Str.ofString "2" = Str.ofString "+") = False := eq_false (by decide +kernel)
@[simp] theorem str_18_25 : (Str.ofString "2" = Str.ofString "a") = False := eq_false (by decide +kernel)
@[simp] theorem str_18_26 : (Str.ofString "2" = Str.ofString "
") = False := eq_false (by decide +kernel)
@[simp] theorem str_18_27 : (Str.ofString "2" = Str.ofString "too many rows") = False := eq_false (by decide +kernel)
@[simp] theorem str_18_28 : (Str.ofString "2" = Str.ofString "no row of this table") = False := eq_false (by decide +kernel)
@[simp] theorem str_18_29 : (Str.ofString "2" = Str.ofString "0123456789") = False := eq_false (by decide +kernel)
@[simp] theorem str_19_0 : (Str.ofString "3" = Str.ofString "") = False := eq_false (by decide +kernel)
@[simp] theorem str_19_1 : (Str.ofString "3" = Str.ofString "-") = False := eq_false (by decide +kernel)
@[simp] theorem str_19_2 : (Str.ofString "3" = Str.ofString "-0") = False := eq_false (by decide +kernel)
@[simp] theorem str_19_3 : (Str.ofString "3" = Str.ofString "00") = False := eq_false (by decide +kernel)
@[simp] theorem str_19_4 : (Str.ofString "3" = Str.ofString "+1") = False := eq_false (by decide +kernel)
@[simp] theorem str_19_5 : (Str.ofString "3" = Str.ofString "1_0") = False := eq_false (by decide +kernel)
@[simp] theorem str_19_6 : (Str.ofString "3" = Str.ofString "01") = False := eq_false (by decide +kernel)
@[simp] theorem str_19_7 : (Str.ofString "3" = Str.ofString "x") = False := eq_false (by decide +kernel)
@[simp] theorem str_19_8 : (Str.ofString "3" = Str.ofString "1.0") = False := eq_false (by decide +kernel)
@[simp] theorem str_19_9 : (Str.ofString "3" = Str.ofString "--2") = False := eq_false (by decide +kernel)
@[simp] theorem str_19_10 : (Str.ofString "3" = Str.ofString "5-") = False := eq_false (by decide +kernel)
@[simp] theorem str_19_11 : (Str.ofString "3" = Str.ofString "-07") = False := eq_false (by decide +kernel)
@[simp] theorem str_19_12 : (Str.ofString "3" = Str.ofString "1e3") = False := eq_false (by decide +kernel)
@[simp] theorem str_19_13 : (Str.ofString "3" = Str.ofString "0") = False := eq_false (by decide +kernel)
@[simp] theorem str_19_14 : (Str.ofString "3" = Str.ofString "9") = False := eq_false (by decide +kernel)
@[simp] theorem str_19_15 : (Str.ofString "3" = Str.ofString "1") = False := eq_false (by decide +kernel)
@[simp] theorem str_19_16 : (Str.ofString "3" = Str.ofString "7") = False := eq_false (by decide +kernel)
@[simp] theorem str_19_17 : (Str.ofString "3" = Str.ofString " ") = False := eq_false (by decide +kernel)
@[simp] theorem str_19_18 : (Str.ofString "3" = Str.ofString "2") = False := eq_false (by decide +kernel)
@[simp] theorem str_19_20 : (Str.ofString "3" = Str.ofString "4") = False := eq_false (by decide +kernel)
@[simp] theorem str_19_21 : (Str.ofString "3" = Str.ofString "5") = False := eq_false (by decide +kernel)
@[simp] theorem str_19_22 : (Str.ofString "3" = Str.ofString "'") = False := eq_false (by decide +kernel)
@[simp] theorem str_19_23 : (Str.ofString "3" = Str.ofString "_") = False := eq_false (by decide +kernel)
@[simp] theorem str_19_24 : (Str.ofString "3" = Str.ofString "+") = False := eq_false (by decide +kernel)
@[simp] theorem str_19_25 : (Str.ofString "3" = Str.ofString "a") = False := eq_false (by decide +kernel)
@[simp] theorem str_19_26 : (Str.ofString "3" = Str.ofString "
") = False := eq_false (by decide +kernel)
@[simp] theorem str_19_27 : (Str.ofString "3" = Str.ofString "too many rows") = False := eq_false (by decide +kernel)
@[simp] theorem str_19_28 : (Str.ofString "3" = Str.ofString "no row of this table") = False := eq_false (by decide +kernel)
@[simp] theorem str_19_29 : (Str.ofString "3" = Str.ofString "0123456789") = False := eq_false (by decide +kernel)
@[simp] theorem str_20_0 : (Str.ofString "4" = Str.ofString "") = False := eq_false (by decide +kernel)
@[simp] theorem str_20_1 : (Str.ofString "4" = Str.ofString "-") = False := eq_false (by decide +kernel)
@[simp] theorem str_20_2 : (Str.ofString "4" = Str.ofString "-0") = False := eq_false (by decide +kernel)
@[simp] theorem str_20_3 : (Str.ofString "4" = Str.ofString "00") = False := eq_false (by decide +kernel)
@[simp] theorem str_20_4 : (Str.ofString "4" = Str.ofString "+1") = False := eq_false (by decide +kernel)
@[simp] theorem str_20_5 : (Str.ofString "4" = Str.ofString "1_0") = False := eq_false (by decide +kernel)
@[simp] theorem str_20_6 : (Str.ofString "4" = Str.ofString "01") = False := eq_false (by decide +kernel)
@[simp] theorem str_20_7 : (Str.ofString "4" = Str.ofString "x") = False := eq_false (by decide +kernel)
@[simp] theorem str_20_8 : (Str.ofString "4" = Str.ofString "1.0") = False := eq_false (by decide +kernel)
@[simp] theorem str_20_9 : (Str.ofString "4" = Str.ofString "--2") = False := eq_false (by decide +kernel)
@[simp] theorem str_20_10 : (Str.ofString "4" = Str.ofString "5-") = False := eq_false (by decide +kernel)
@[simp] theorem str_20_11 : (Str.ofString "4" = Str.ofString "-07") = False := eq_false (by decide +kernel)
@[simp] theorem str_20_12 : (Str.ofString "4" = Str.ofString "1e3") = False := eq_false (by decide +kernel)
@[simp] theorem str_20_13 : (Str.ofString "4" = Str.ofString "0") = False := eq_false (by decide +kernel)
@[simp] theorem str_20_14 : (Str.ofString "4" = Str.ofString "9") = False := eq_false (by decide +kernel)
@[simp] theorem str_20_15 : (Str.ofString "4" = Str.ofString "1") = False := eq_false (by decide +kernel)
@[simp] theorem str_20_16 : (Str.ofString "4" = Str.ofString "7") = False := eq_false (by decide +kernel)
@[simp] theorem str_20_17 : (Str.ofString "4" = Str.ofString " ") = False := eq_false (by decide +kernel)
@[simp] theorem str_20_18 : (Str.ofString "4" = Str.ofString "2") = False := eq_false (by decide +kernel)
@[simp] theorem str_20_19 : (Str.ofString "4" = Str.ofString "3") = False := eq_false (by decide +kernel)
@[simp] theorem str_20_21 : (Str.ofString "4" = Str.ofString "5") = False := eq_false (by decide +kernel)
@[simp] theorem str_20_22 : (Str.ofString "4" = Str.ofString "'") = False := eq_false (by decide +kernel)
@[simp] theorem str_20_23 : (Str.ofString "4" = Str.ofString "_") = False := eq_false (by decide +kernel)
@[simp] theorem str_20_24 : (Str.ofString "4" = Str.ofString "+") = False := eq_false (by decide +kernel)
@[simp] theorem str_20_25 : (Str.ofString "4" = Str.ofString "a") = False := eq_false (by decide +kernel)
@[simp] theorem str_20_26 : (Str.ofString "4" = Str.ofString "
") = False := eq_false (by decide +kernel)
@[simp] theorem str_20_27 : (Str.ofString "4" = Str.ofString "too many rows") = False := eq_false (by decide +kernel)
@[simp] theorem str_20_28 : (Str.ofString "4" = Str.ofString "no row of this table") = False := eq_false (by decide +kernel)
@[simp] theorem str_20_29 : (Str.ofString "4" = Str.ofString "0123456789") = False := eq_false (by decide +kernel)
@[simp] theorem str_21_0 : (Str.ofString "5" = Str.ofString "") = False := eq_false (by decide +kernel)
@[simp] theorem str_21_1 : (Str.ofString "5" = Str.ofString "-") = False := eq_false (by decide +kernel)
@[simp] theorem str_21_2 : (Str.ofString "5" = Str.ofString "-0") = False := eq_false (by decide +kernel)
@[simp] theorem str_21_3 : (Str.ofString "5" = Str.ofString "00") = False := eq_false (by decide +kernel)
@[simp] theorem str_21_4 : (Str.ofString "5" = Str.ofString "+1") = False := eq_false (by decide +kernel)
@[simp] theorem str_21_5 : (Str.ofString "5" = Str.ofString "1_0") = False := eq_false (by decide +kernel)
@[simp] theorem str_21_6 : (Str.ofString "5" = Str.ofString "01") = False := eq_false (by decide +kernel)
@[simp] theorem str_21_7 : (Str.ofString "5" = Str.ofString "x") = False := eq_false (by decide +kernel)
@[simp] theorem str_21_8 : (Str.ofString "5" = Str.ofString "1.0") = False := eq_false (by decide +kernel)
@[simp] theorem str_21_9 : (Str.ofString "5" = Str.ofString "--2") = False := eq_false (by decide +kernel)
@[simp] theorem str_21_10 : (Str.ofString "5" = Str.ofString "5-") = False := eq_false (by decide +kernel)
@[simp] theorem str_21_11 : (Str.ofString "5" = Str.ofString "-07") = False := eq_false (by decide +kernel)
@[simp] theorem str_21_12 : (Str.ofString "5" = Str.ofString "1e3") = False := eq_false (by decide +kernel)
@[simp] theorem str_21_13 : (Str.ofString "5" = Str.ofString "0") = False := eq_false (by decide +kernel)
@[simp] theorem str_21_14 : (Str.ofString "5" = Str.ofString "9") = False := eq_false (by decide +kernel)
@[simp] theorem str_21_15 : (Str.ofString "5" = Str.ofString "1") = False := eq_false (by decide +kernel)
@[simp] theorem str_21_16 : (Str.ofString "5" = Str.ofString "7") = False := eq_false (by decide +kernel)
@[simp] theorem str_21_17 : (Str.ofString "5" = Str.ofString " ") = False := eq_false (by decide +kernel)
@[simp] theorem str_21_18 : (Str.ofString "5" = Str.ofString "2") = False := eq_false (by decide +kernel)
@[simp] theorem str_21_19 : (Str.ofString "5" = Str.ofString "3") = False := eq_false (by decide +kernel)
@[simp] theorem str_21_20 : (Str.ofString "5" = Str.ofString "4") = False := eq_false (by decide +kernel)
@[simp] theorem str_21_22 : (Str.ofString "5" = Str.ofString "'") = False := eq_false (by decide +kernel)
@[simp] theorem str_21_23 : (Str.ofString "5" = Str.ofString "_") = False := eq_false (by decide +kernel)
@[simp] theorem str_21_24 : (Str.ofString "5" = Str.ofString "+") = False := eq_false (by decide +kernel)
@[simp] theorem str_21_25 : (Str.ofString "5" = Str.ofString "a") = False := eq_false (by decide +kernel)
@[simp] theorem str_21_26 : (Str.ofString "5" = Str.ofString "
") = False := eq_false (by decide +kernel)
@[simp] theorem str_21_27 : (Str.ofString "5" = Str.ofString "too many rows") = False := eq_false (by decide +kernel)
@[simp] theorem str_21_28 : (Str.ofString "5" = Str.ofString "no row of this table") = False := eq_false (by decide +kernel)
@[simp] theorem str_21_29 : (Str.ofString "5" = Str.ofString "0123456789") = False := eq_false (by decide +kernel)
@[simp] theorem str_22_0 : (Str.ofString "'" = Str.ofString "") = False := eq_false (by decide +kernel)
@[simp] theorem str_22_1 : (Str.ofString "'" = Str.ofString "-") = False := eq_false (by decide +kernel)
@[simp] theorem str_22_2 : (Str.ofString "'" = Str.ofString "-0") = False := eq_false (by decide +kernel)
@[simp] theorem str_22_3 : (Str.ofString "'" = Str.ofString "00") = False := eq_false (by decide +kernel)
@[simp] theorem str_22_4 : (Str.ofString "'" = Str.ofString "+1") = False := eq_false (by decide +kernel)
@[simp] theorem str_22_5 : (Str.ofString "'" = Str.ofString "1_0") = False := eq_false (by decide +kernel)
@[simp] theorem str_22_6 : (Str.ofString "'" = Str.ofString "01") = False := eq_false (by decide +kernel)
@[simp] theorem str_22_7 : (Str.ofString "'" = Str.ofString "x") = False := eq_false (by decide +kernel)
@[simp] theorem str_22_8 : (Str.ofString "'" = Str.ofString "1.0") = False := eq_false (by decide +kernel)
@[simp] theorem str_22_9 : (Str.ofString "'" = Str.ofString "--2") = False := eq_false (by decide +kernel)
@[simp] theorem str_22_10 : (Str.ofString "'" = Str.ofString "5-") = False := eq_false (by decide +kernel)
@[simp] theorem str_22_11 : (Str.ofString "'" = Str.ofString "-07") = False := eq_false (by decide +kernel)
@[simp] theorem str_22_12 : (Str.ofString "'" = Str.ofString "1e3") = False := eq_false (by decide +kernel)
@[simp] theorem str_22_13 : (Str.ofString "'" = Str.ofString "0") = False := eq_false (by decide +kernel)
@[simp] theorem str_22_14 : (Str.ofString "'" = Str.ofString "9") = False := eq_false (by decide +kernel)
@[simp] theorem str_22_15 : (Str.ofString "'" = Str.ofString "1") = False := eq_false (by decide +kernel)
@[simp] theorem str_22_16 : (Str.ofString "'" = Str.ofString "7") = False := eq_false (by decide +kernel)
@[simp] theorem str_22_17 : (Str.ofString "'" = Str.ofString " ") = False := eq_false (by decide +kernel)
@[simp] theorem str_22_18 : (Str.ofString "'" = Str.ofString "2") = False := eq_false (by decide +kernel)
@[simp] theorem str_22_19 : (Str.ofString "'" = Str.ofString "3") = False := eq_false (by decide +kernel)
@[simp] theorem str_22_20 : (Str.ofString "'" = Str.ofString "4") = False := eq_false (by decide +kernel)
@[simp] theorem str_22_21 : (Str.ofString "'" = Str.ofString "5") = False := eq_false (by decide +kernel)
@[simp] theorem str_22_23 : (Str.ofString "'" = Str.ofString "_") = False := eq_false (by decide +kernel)
@[simp] theorem str_22_24 : (Str.ofString "'" = Str.ofString "+") = False := eq_false (by decide +kernel)
@[simp] theorem str_22_25 : (Str.ofString "'" = Str.ofString "a") = False := eq_false (by decide +kernel)
@[simp] theorem str_22_26 : (Str.ofString "'" = Str.ofString "
") = False := eq_false (by decide +kernel)
@[simp] theorem str_22_27 : (Str.ofString "'" = Str.ofString "too many rows") = False := eq_false (by decide +kernel)
@[simp] theorem str_22_28 : (Str.ofString "'" = Str.ofString "no row of this table") = False := eq_false (by decide +kernel)
@[simp] theorem str_22_29 : (Str.ofString "'" = Str.ofString "0123456789") = False := eq_false (by decide +kernel)
@[simp] theorem str_23_0 : (Str.ofString "_" = Str.ofString "") = False := eq_false (by decide +kernel)
@[simp] theorem str_23_1 : (Str.ofString "_" = Str.ofString "-") = False := eq_false (by decide +kernel)
@[simp] theorem str_23_2 : (Str.ofString "_" = Str.ofString "-0") = False := eq_false (by decide +kernel)
@[simp] theorem str_23_3 : (Str.ofString "_" = Str.ofString "00") = False := eq_false (by decide +kernel)
@[simp] theorem str_23_4 : (Str.ofString "_" = Str.ofString "+1") = False := eq_false (by decide +kernel)
@[simp] theorem str_23_5 : (Str.ofString "_" = Str.ofString "1_0") = False := eq_false (by decide +kernel)
@[simp] theorem str_23_6 : (Str.ofString "_" = Str.ofString "01") = False := eq_false (by decide +kernel)
@[simp] theorem str_23_7 : (Str.ofString "_" = Str.ofString "x") = False := eq_false (by decide +kernel)
@[simp] theorem str_23_8 : (Str.ofString "_" = Str.ofString "1.0") = False := eq_false (by decide +kernel)
@[simp] theorem str_23_9 : (Str.ofString "_" = Str.ofString "--2") = False := eq_false (by decide +kernel)
@[simp] theorem str_23_10 : (Str.ofString "_" = Str.ofString "5-") = False := eq_false (by decide +kernel)
@[simp] theorem str_23_11 : (Str.ofString "_" = Str.ofString "-07") = False := eq_false (by decide +kernel)
@[simp] theorem str_23_12 : (Str.ofString "_" = Str.ofString "1e3") = False := eq_false (by decide +kernel)
@[simp] theorem str_23_13 : (Str.ofString "_" = Str.ofString "0") = False := eq_false (by decide +kernel)
@[simp] theorem str_23_14 : (Str.ofString "_" = Str.ofString "9") = False := eq_false (by decide +kernel)
@[simp] theorem str_23_15 : (Str.ofString "_" = Str.ofString "1") = False := eq_false (by decide +kernel)
@[simp] theorem str_23_16 : (Str.ofString "_" = Str.ofString "7") = False := eq_false (by decide +kernel)
@[simp] theorem str_23_17 : (Str.ofString "_" = Str.ofString " ") = False := eq_false (by decide +kernel)
@[simp] theorem str_23_18 : (Str.ofString "_" = Str.ofString "2") = False := eq_false (by decide +kernel)
@[simp] theorem str_23_19 : (Str.ofString "_" = Str.ofString "3") = False := eq_false (by decide +kernel)
@[simp] theorem str_23_20 : (Str.ofString "_" = Str.ofString "4") = False := eq_false (by decide +kernel)
@[simp] theorem str_23_21 : (Str.ofString "_" = Str.ofString "5") = False := eq_false (by decide +kernel)
@[simp] theorem str_23_22 : (Str.ofString "_" = Str.ofString "'") = False := eq_false (by decide +kernel)
@[simp] theorem str_23_24 : (Str.ofString "_" = Str.ofString "+") = False := eq_false (by decide +kernel)
@[simp] theorem str_23_25 : (Str.ofString "_" = Str.ofString "a") = False := eq_false (by decide +kernel)
@[simp] theorem str_23_26 : (Str.ofString "_" = Str.ofString "
") = False := eq_false (by decide +kernel)
@[simp] theorem str_23_27 : (Str.ofString "_" = Str.ofString "too many rows") = False := eq_false (by decide +kernel)
@[simp] theorem str_23_28 : (Str.ofString "_" = Str.ofString "no row of this table") = False := eq_false (by decide +kernel)
@[simp] theorem str_23_29 : (Str.ofString "_" = Str.ofString "0123456789") = False := eq_false (by decide +kernel)
@[simp] theorem str_24_0 : (Str.ofString "+" = Str.ofString "") = False := eq_false (by decide +kernel)
@[simp] theorem str_24_1 : (Str.ofString "+" = Str.ofString "-") = False := eq_false (by decide +kernel)
@[simp] theorem str_24_2 : (Str.ofString "+" = Str.ofString "-0") = False := eq_false (by decide +kernel)
@[simp] theorem str_24_3 : (Str.ofString "+" = Str.ofString "00") = False := eq_false (by decide +kernel)
@[simp] theorem str_24_4 : (Str.ofString "+" = Str.ofString "+1") = False := eq_false (by decide +kernel)
@[simp] theorem str_24_5 : (Str.ofString "+" = Str.ofString "1_0") = False := eq_false (by decide +kernel)
@[simp] theorem str_24_6 : (Str.ofString "+" = Str.ofString "01") = False := eq_false (by decide +kernel)
@[simp] theorem str_24_7 : (Str.ofString "+" = Str.ofString "x") = False := eq_false (by decide +kernel)
@[simp] theorem str_24_8 : (Str.ofString "+" = Str.ofString "1.0") = False := eq_false (by decide +kernel)
@[simp] theorem str_24_9 : (Str.ofString "+" = Str.ofString "--2") = False := eq_false (by decide +kernel)
@[simp] theorem str_24_10 : (Str.ofString "+" = Str.ofString "5-") = False := eq_false (by decide +kernel)
@[simp] theorem str_24_11 : (Str.ofString "+" = Str.ofString "-07") = False := eq_false (by decide +kernel)
@[simp] theorem str_24_12 : (Str.ofString "+" = Str.ofString "1e3") = False := eq_false (by decide +kernel)
@[simp] theorem str_24_13 : (Str.ofString "+" = Str.ofString "0") = False := eq_false (by decide +kernel)
@[simp] theorem str_24_14 : (Str.ofString "+" = Str.ofString "9") = False := eq_false (by decide +kernel)
@[simp] theorem str_24_15 : (Str.ofString "+" = Str.ofString "1") = False := eq_false (by decide +kernel)
@[simp] theorem str_24_16 : (Str.ofString "+" = Str.ofString "7") = False := eq_false (by decide +kernel)
@[simp] theorem str_24_17 : (Str.ofString "+" = Str.ofString " ") = False := eq_false (by decide +kernel)
@[simp] theorem str_24_18 : (Str.ofString "+" = Str.ofString "2") = False := eq_false (by decide +kernel)
@[simp] theorem str_24_19 : (Str.ofString "+" = Str.ofString "3") = False := eq_false (by decide +kernel)
@[simp] theorem str_24_20 : (Str.ofString "+" = Str.ofString "4") = False := eq_false (by decide +kernel)
@[simp] theorem str_24_21 : (Str.ofString "+" = Str.ofString "5") = False := eq_false (by decide +kernel)
@[simp] theorem str_24_22 : (Str.ofString "+" = Str.ofString "'") = False := eq_false (by decide +kernel)
@[simp] theorem str_24_23 : (Str.ofString "+" = Str.ofString "_") = False := eq_false (by decide +kernel)
@[simp] theorem str_24_25 : (Str.ofString "+" = Str.ofString "a") = False := eq_false (by decide +kernel)
@[simp] theorem str_24_26 : (Str.ofString "+" = Str.ofString "
") = False := eq_false (by decide +kernel)
@[simp] theorem str_24_27 : (Str.ofString "+" = Str.ofString "too many rows") = False := eq_false (by decide +kernel)
@[simp] theorem str_24_28 : (Str.ofString "+" = Str.ofString "no row of this table") = False := eq_false (by decide +kernel)
@[simp] theorem str_24_29 : (Str.ofString "+" = Str.ofString "0123456789") = False := eq_false (by decide +kernel)
@[simp] theorem str_25_0 : (Str.ofString "a" = Str.ofString "") = False := eq_false (by decide +kernel)
@[simp] theorem str_25_1 : (Str.ofString "a" = Str.ofString "-") = False := eq_false (by decide +kernel)
@[simp] theorem str_25_2 : (Str.ofString "a" = Str.ofString "-0") = False := eq_false (by decide +kernel)
@[simp] theorem str_25_3 : (Str.ofString "a" = Str.ofString "00") = False := eq_false (by decide +kernel)
@[simp] theorem str_25_4 : (Str.ofString "a" = Str.ofString "+1") = False := eq_false (by decide +kernel)
@[simp] theorem str_25_5 : (Str.ofString "a" = Str.ofString "1_0") = False := eq_false (by decide +kernel)
@[simp] theorem str_25_6 : (Str.ofString "a" = Str.ofString "01") = False := eq_false (by decide +kernel)
@[simp] theorem str_25_7 : (Str.ofString "a" = Str.ofString "x") = False := eq_false (by decide +kernel)
@[simp] theorem str_25_8 : (Str.ofString "a" = Str.ofString "1.0") = False := eq_false (by decide +kernel)
@[simp] theorem str_25_9 : (Str.ofString "a" = Str.ofString "--2") = False := eq_false (by decide +kernel)
@[simp] theorem str_25_10 : (Str.ofString "a" = Str.ofString "5-") = False := eq_false (by decide +kernel)
@[simp] theorem str_25_11 : (Str.ofString "a" = Str.ofString "-07") = False := eq_false (by decide +kernel)
@[simp] theorem str_25_12 : (Str.ofString "a" = Str.ofString "1e3") = False := eq_false (by decide +kernel)
@[simp] theorem str_25_13 : (Str.ofString "a" = Str.ofString "0") = False := eq_false (by decide +kernel)
@[simp] theorem str_25_14 : (Str.ofString "a" = Str.ofString "9") = False := eq_false (by decide +kernel)
@[simp] theorem str_25_15 : (Str.ofString "a" = Str.ofString "1") = False := eq_false (by decide +kernel)
@[simp] theorem str_25_16 : (Str.ofString "a" = Str.ofString "7") = False := eq_false (by decide +kernel)
@[simp] theorem str_25_17 : (Str.ofString "a" = Str.ofString " ") = False := eq_false (by decide +kernel)
@[simp] theorem str_25_18 : (Str.ofString "a" = Str.ofString "2") = False := eq_false (by decide +kernel)
@[simp] theorem str_25_19 : (Str.ofString "a" = Str.ofString "3") = False := eq_false (by decide +kernel)
@[simp] theorem str_25_20 : (Str.ofString "a" = Str.ofString "4") = False := eq_false (by decide +kernel)
@[simp] theorem str_25_21 : (Str.ofString "a" = Str.ofString "5") = False := eq_false (by decide +kernel)
@[simp] theorem str_25_22 : (Str.ofString "a" = Str.ofString "'") = False := eq_false (by decide +kernel)
@[simp] theorem str_25_23 : (Str.ofString "a" = Str.ofString "_") = False := eq_false (by decide +kernel)
@[simp] theorem str_25_24 : (Str.ofString "a" = Str.ofString "+") = False := eq_false (by decide +kernel)
@[simp] theorem str_25_26 : (Str.ofString "a" = Str.ofString "
") = False := eq_false (by decide +kernel)
@[simp] theorem str_25_27 : (Str.ofString "a" = Str.ofString "too many rows") = False := eq_false (by decide +kernel)
@[simp] theorem str_25_28 : (Str.ofString "a" = Str.ofString "no row of this table") = False := eq_false (by decide +kernel)
@[simp] theorem str_25_29 : (Str.ofString "a" = Str.ofString "0123456789") = False := eq_false (by decide +kernel)
@[simp] theorem str_26_0 : (Str.ofString "
" = Str.ofString "") = False := eq_false (by decide +kernel)
@[simp] theorem str_26_1 : (Str.ofString "
" = Str.ofString "-") = False := eq_false (by decide +kernel)
@[simp] theorem str_26_2 : (Str.ofString "
" = Str.ofString "-0") = False := eq_false (by decide +kernel)
@[simp] theorem str_26_3 : (Str.ofString "
" = Str.ofString "00") = False := eq_false (by decide +kernel)
@[simp] theorem str_26_4 : (Str.ofString "
" = Str.ofString "+1") = False := eq_false (by decide +kernel)
@[simp] theorem str_26_5 : (Str.ofString "
" = Str.ofString "1_0") = False := eq_false (by decide +kernel)
@[simp] theorem str_26_6 : (Str.ofString "
" = Str.ofString "01") = False := eq_false (by decide +kernel)
@[simp] theorem str_26_7 : (Str.ofString "
" = Str.ofString "x") = False := eq_false (by decide +kernel)
@[simp] theorem str_26_8 : (Str.ofString "
" = Str.ofString "1.0") = False := eq_false (by decide +kernel)
@[simp] theorem str_26_9 : (Str.ofString "
" = Str.ofString "--2") = False := eq_false (by decide +kernel)
@[simp] theorem str_26_10 : (Str.ofString "
" = Str.ofString "5-") = False := eq_false (by decide +kernel)
@[simp] theorem str_26_11 : (Str.ofString "
" = Str.ofString "-07") = False := eq_false (by decide +kernel)
@[simp] theorem str_26_12 : (Str.ofString "
" = Str.ofString "1e3") = False := eq_false (by decide +kernel)
@[simp] theorem str_26_13 : (Str.ofString "
" = Str.ofString "0") = False := eq_false (by decide +kernel)
@[simp] theorem str_26_14 : (Str.ofString "
" = Str.ofString "9") = False := eq_false (by decide +kernel)
@[simp] theorem str_26_15 : (Str.ofString "
" = Str.ofString "1") = False := eq_false (by decide +kernel)
@[simp] theorem str_26_16 : (Str.ofString "
" = Str.ofString "7") = False := eq_false (by decide +kernel)
@[simp] theorem str_26_17 : (Str.ofString "
" = Str.ofString " ") = False := eq_false (by decide +kernel)
@[simp] theorem str_26_18 : (Str.ofString "
" = Str.ofString "2") = False := eq_false (by decide +kernel)
@[simp] theorem str_26_19 : (Str.ofString "
" = Str.ofString "3") = False := eq_false (by decide +kernel)
@[simp] theorem str_26_20 : (Str.ofString "
" = Str.ofString "4") = False := eq_false (by decide +kernel)
@[simp] theorem str_26_21 : (Str.ofString "
" = Str.ofString "5") = False := eq_false (by decide +kernel)
@[simp] theorem str_26_22 : (Str.ofString "
" = Str.ofString "'") = False := eq_false (by decide +kernel)
@[simp] theorem str_26_23 : (Str.ofString "
" = Str.ofString "_") = False := eq_false (by decide +kernel)
@[simp] theorem str_26_24 : (Str.ofString "
" = Str.ofString "+") = False := eq_false (by decide +kernel)
@[simp] theorem str_26_25 : (Str.ofString "
" = Str.ofString "a") = False := eq_false (by decide +kernel)
@[simp] theorem str_26_27 : (Str.ofString "
" = Str.ofString "too many rows") = False := eq_false (by decide +kernel)
@[simp] theorem str_26_28 : (Str.ofString "
" = Str.ofString "no row of this table") = False := eq_false (by decide +kernel)
@[simp] theorem str_26_29 : (Str.ofString "
" = Str.ofString "0123456789") = False := eq_false (by decide +kernel)
@[simp] theorem str_27_0 : (Str.ofString "too many rows" = Str.ofString "") = False := eq_false (by decide +kernel)
@[simp] theorem str_27_1 : (Str.ofString "too many rows" = Str.ofString "-") = False := eq_false (by decide +kernel)
@[simp] theorem str_27_2 : (Str.ofString "too many rows" = Str.ofString "-0") = False := eq_false (by decide +kernel)
@[simp] theorem str_27_3 : (Str.ofString "too many rows" = Str.ofString "00") = False := eq_false (by decide +kernel)
@[simp] theorem str_27_4 : (Str.ofString "too many rows" = Str.ofString "+1") = False := eq_false (by decide +kernel)
@[simp] theorem str_27_5 : (Str.ofString "too many rows" = Str.ofString "1_0") = False := eq_false (by decide +kernel)
@[simp] theorem str_27_6 : (Str.ofString "too many rows" = Str.ofString "01") = False := eq_false (by decide +kernel)
@[simp] theorem str_27_7 : (Str.ofString "too many rows" = Str.ofString "x") = False := eq_false (by decide +kernel)
@[simp] theorem str_27_8 : (Str.ofString "too many rows" = Str.ofString "1.0") = False := eq_false (by decide +kernel)
@[simp] theorem str_27_9 : (Str.ofString "too many rows" = Str.ofString "--2") = False := eq_false (by decide +kernel)
@[simp] theorem str_27_10 : (Str.ofString "too many rows" = Str.ofString "5-") = False := eq_false (by decide +kernel)
@[simp] theorem str_27_11 : (Str.ofString "too many rows" = Str.ofString "-07") = False := eq_false (by decide +kernel)
@[simp] theorem str_27_12 : (Str.ofString "too many rows" = Str.ofString "1e3") = False := eq_false (by decide +kernel)
@[simp] theorem str_27_13 : (Str.ofString "too many rows" = Str.ofString "0") = False := eq_false (by decide +kernel)
@[simp] theorem str_27_14 : (Str.ofString "too many rows" = Str.ofString "9") = False := eq_false (by decide +kernel)
@[simp] theorem str_27_15 : (Str.ofString "too many rows" = Str.ofString "1") = False := eq_false (by decide +kernel)
@[simp] theorem str_27_16 : (Str.ofString "too many rows" = Str.ofString "7") = False := eq_false (by decide +kernel)
@[simp] theorem str_27_17 : (Str.ofString "too many rows" = Str.ofString " ") = False := eq_false (by decide +kernel)
@[simp] theorem str_27_18 : (Str.ofString "too many rows" = Str.ofString "2") = False := eq_false (by decide +kernel)
@[simp] theorem str_27_19 : (Str.ofString "too many rows" = Str.ofString "3") = False := eq_false (by decide +kernel)
@[simp] theorem str_27_20 : (Str.ofString "too many rows" = Str.ofString "4") = False := eq_false (by decide +kernel)
@[simp] theorem str_27_21 : (Str.ofString "too many rows" = Str.ofString "5") = False := eq_false (by decide +kernel)
@[simp] theorem str_27_22 : (Str.ofString "too many rows" = Str.ofString "'") = False := eq_false (by decide +kernel)
@[simp] theorem str_27_23 : (Str.ofString "too many rows" = Str.ofString "_") = False := eq_false (by decide +kernel)
@[simp] theorem str_27_24 : (Str.ofString "too many rows" = Str.ofString "+") = False := eq_false (by decide +kernel)
@[simp] theorem str_27_25 : (Str.ofString "too many rows" = Str.ofString "a") = False := eq_false (by decide +kernel)
@[simp] theorem str_27_26 : (Str.ofString "too many rows" = Str.ofString "
") = False := eq_false (by decide +kernel)
@[simp] theorem str_27_28 : (Str.ofString "too many rows" = Str.ofString "no row of this table") = False := eq_false (by decide +kernel)
@[simp] theorem str_27_29 : (Str.ofString "too many rows" = Str.ofString "0123456789") = False := eq_false (by decide +kernel)
@[simp] theorem str_28_0 : (Str.ofString "no row of this table" = Str.ofString "") = False := eq_false (by decide +kernel)
@[simp] theorem str_28_1 : (Str.ofString "no row of this table" = Str.ofString "-") = False := eq_false (by decide +kernel)
@[simp] theorem str_28_2 : (Str.ofString "no row of this table" = Str.ofString "-0") = False := eq_false (by decide +kernel)
@[simp] theorem str_28_3 : (Str.ofString "no row of this table" = Str.ofString "00") = False := eq_false (by decide +kernel)
@[simp] theorem str_28_4 : (Str.ofString "no row of this table" = Str.ofString "+1") = False := eq_false (by decide +kernel)
@[simp] theorem str_28_5 : (Str.ofString "no row of this table" = Str.ofString "1_0") = False := eq_false (by decide +kernel)
@[simp] theorem str_28_6 : (Str.ofString "no row of this table" = Str.ofString "01") = False := eq_false (by decide +kernel)
@[simp] theorem str_28_7 : (Str.ofString "no row of this table" = Str.ofString "x") = False := eq_false (by decide +kernel)
@[simp] theorem str_28_8 : (Str.ofString "no row of this table" = Str.ofString "1.0") = False := eq_false (by decide +kernel)
@[simp] theorem str_28_9 : (Str.ofString "no row of this table" = Str.ofString "--2") = False := eq_false (by decide +kernel)
@[simp] theorem str_28_10 : (Str.ofString "no row of this table" = Str.ofString "5-") = False := eq_false (by decide +kernel)
@[simp] theorem str_28_11 : (Str.ofString "no row of this table" = Str.ofString "-07") = False := eq_false (by decide +kernel)
@[simp] theorem str_28_12 : (Str.ofString "no row of this table" = Str.ofString "1e3") = False := eq_false (by decide +kernel)
@[simp] theorem str_28_13 : (Str.ofString "no row of this table" = Str.ofString "0") = False := eq_false (by decide +kernel)
@[simp] theorem str_28_14 : (Str.ofString "no row of this table" = Str.ofString "9") = False := eq_false (by decide +kernel)
@[simp] theorem str_28_15 : (Str.ofString "no row of this table" = Str.ofString "1") = False := eq_false (by decide +kernel)
@[simp] theorem str_28_16 : (Str.ofString "no row of this table" = Str.ofString "7") = False := eq_false (by decide +kernel)
@[simp] theorem str_28_17 : (Str.ofString "no row of this table" = Str.ofString " ") = False := eq_false (by decide +kernel)
@[simp] theorem str_28_18 : (Str.ofString "no row of this table" = Str.ofString "2") = False := eq_false (by decide +kernel)
@[simp] theorem str_28_19 : (Str.ofString "no row of this table" = Str.ofString "3") = False := eq_false (by decide +kernel)
@[simp] theorem str_28_20 : (Str.ofString "no row of this table" = Str.ofString "4") = False := eq_false (by decide +kernel)
@[simp] theorem str_28_21 : (Str.ofString "no row of this table" = Str.ofString "5") = False := eq_false (by decide +kernel)
@[simp] theorem str_28_22 : (Str.ofString "no row of this table" = Str.ofString "'") = False := eq_false (by decide +kernel)
@[simp] theorem str_28_23 : (Str.ofString "no row of this table" = Str.ofString "_") = False := eq_false (by decide +kernel)
@[simp] theorem str_28_24 : (Str.ofString "no row of this table" = Str.ofString "+") = False := eq_false (by decide +kernel)
@[simp] theorem str_28_25 : (Str.ofString "no row of this table" = Str.ofString "a") = False := eq_false (by decide +kernel)
@[simp] theorem str_28_26 : (Str.ofString "no row of this table" = Str.ofString "
") = False := eq_false (by decide +kernel)
@[simp] theorem str_28_27 : (Str.ofString "no row of this table" = Str.ofString "too many rows") = False := eq_false (by decide +kernel)
@[simp] theorem str_28_29 : (Str.ofString "no row of this table" = Str.ofString "0123456789") = False := eq_false (by decide +kernel)
@[simp] theorem str_29_0 : (Str.ofString "0123456789" = Str.ofString "") = False := eq_false (by decide +kernel)
@[simp] theorem str_29_1 : (Str.ofString "0123456789" = Str.ofString "-") = False := eq_false (by decide +kernel)
@[simp] theorem str_29_2 : (Str.ofString "0123456789" = Str.ofString "-0") = False := eq_false (by decide +kernel)
@[simp] theorem str_29_3 : (Str.ofString "0123456789" = Str.ofString "00") = False := eq_false (by decide +kernel)
@[simp] theorem str_29_4 : (Str.ofString "0123456789" = Str.ofString "+1") = False := eq_false (by decide +kernel)
@[simp] theorem str_29_5 : (Str.ofString "0123456789" = Str.ofString "1_0") = False := eq_false (by decide +kernel)
@[simp] theorem str_29_6 : (Str.ofString "0123456789" = Str.ofString "01") = False := eq_false (by decide +kernel)
@[simp] theorem str_29_7 : (Str.ofString "0123456789" = Str.ofString "x") = False := eq_false (by decide +kernel)
@[simp] theorem str_29_8 : (Str.ofString "0123456789" = Str.ofString "1.0") = False := eq_false (by decide +kernel)
@[simp] theorem str_29_9 : (Str.ofString "0123456789" = Str.ofString "--2") = False := eq_false (by decide +kernel)
@[simp] theorem str_29_10 : (Str.ofString "0123456789" = Str.ofString "5-") = False := eq_false (by decide +kernel)
@[simp] theorem str_29_11 : (Str.ofString "0123456789" = Str.ofString "-07") = False := eq_false (by decide +kernel)
@[simp] theorem str_29_12 : (Str.ofString "0123456789" = Str.ofString "1e3") = False := eq_false (by decide +kernel)
@[simp] theorem str_29_13 : (Str.ofString "0123456789" = Str.ofString "0") = False := eq_false (by decide +kernel)
@[simp] theorem str_29_14 : (Str.ofString "0123456789" = Str.ofString "9") = False := eq_false (by decide +kernel)
@[simp] theorem str_29_15 : (Str.ofString "0123456789" = Str.ofString "1") = False := eq_false (by decide +kernel)
@[simp] theorem str_29_16 : (Str.ofString "0123456789" = Str.ofString "7") = False := eq_false (by decide +kernel)
@[simp] theorem str_29_17 : (Str.ofString "0123456789" = Str.ofString " ") = False := eq_false (by decide +kernel)
@[simp] theorem str_29_18 : (Str.ofString "0123456789" = Str.ofString "2") = False := eq_false (by decide +kernel)
@[simp] theorem str_29_19 : (Str.ofString "0123456789" = Str.ofString "3") = False := eq_false (by decide +kernel)
@[simp] theorem str_29_20 : (Str.ofString "0123456789" = Str.ofString "4") = False := eq_false (by decide +kernel)
@[simp] theorem str_29_21 : (Str.ofString "0123456789" = Str.ofString "5") = False := eq_false (by decide +kernel)
@[simp] theorem str_29_22 : (Str.ofString "0123456789" = Str.ofString "'") = False := eq_false (by decide +kernel)
@[simp] theorem str_29_23 : (Str.ofString "0123456789" = Str.ofString "_") = False := eq_false (by decide +kernel)
@[simp] theorem str_29_24 : (Str.ofString "0123456789" = Str.ofString "+") = False := eq_false (by decide +kernel)
@[simp] theorem str_29_25 : (Str.ofString "0123456789" = Str.ofString "a") = False := eq_false (by decide +kernel)
@[simp] theorem str_29_26 : (Str.ofString "0123456789" = Str.ofString "
") = False := eq_false (by decide +kernel)
@[simp] theorem str_29_27 : (Str.ofString "0123456789" = Str.ofString "too many rows") = False := eq_false (by decide +kernel)
@[simp] theorem str_29_28 : (Str.ofString "0123456789" = Str.ofString "no row of this table") = False := eq_false (by decide +kernel)
-- LIBS 
noncomputable def t_l_mix (cell : Int) (k : Int) : Res Int :=
  ((((modR cell (10 ^ 30 : Int)).bind fun a1 => (mulR a1 (1000000000000000003 : Int))).bind fun a13 => ((((mulR k k).bind fun a7 => .ok (a7 + k)).bind fun a9 => .ok (a9 + (1 : Int))).bind fun a11 => (mulR a11 (1442695040888963407 : Int))).bind fun b14 => .ok (a13 + b14)).bind fun a15 => .ok (a15 % (2305843009213693951 : Int))).bind fun m16 =>
  ((mulR m16 m16).bind fun a17 => .ok (a17 % (2305843009213693921 : Int)))
theorem r_l_mix : CallR F_l_mix (qC eI (q1 eI)) (fun (a : Int × Int) => t_l_mix a.1 a.2) eI := by
  rintro ⟨cell, k⟩ _ ⟨d0, _, rfl, h0, ⟨d1, rfl, h1⟩⟩
  refine r_def (n := 2) (m := 3) (k := 1) (ρ := ([some (sh eI cell), some (sh eI k)] : KEnv)) (LeA.cons h0 (LeA.cons h1 LeA.nil)) rfl ?_
  exact (j_do (d_set (al := []) (v_opl (fun a => o_modL a (by decide)) (v_op o_add (v_op o_mul (v_opp (o_mod _ _) (v_s (E := eI) (a := cell) (i := 0) rfl) (v_opp (o_powL pow_10_30) (vN 10) (vN 30))) (vN 1000000000000000003)) (v_op o_mul (v_op o_add (v_op o_add (v_opp (o_mul _ _) (v_s (E := eI) (a := k) (i := 1) rfl) (v_s (E := eI) (a := k) (i := 1) rfl)) (v_s (E := eI) (a := k) (i := 1) rfl)) (vN 1)) (vN 1442695040888963407))) (vN 2305843009213693951))) (fun m16 => (j_retT (v_opl (fun a => o_modL a (by decide)) (v_opp (o_mul _ _) (v_s (E := eI) (a := m16) (i := 2) rfl) (v_s (E := eI) (a := m16) (i := 2) rfl)) (vN 2305843009213693921)))))
theorem c_l_mix {ρ : KEnv} {fs : DL.Env → Res (List D)} {x0 : Int} {x1 : Int} (h : EvR ρ fs (.ok (x0, x1)) (qC eI (q1 eI))) : EvR ρ (eCall F_l_mix fs) (t_l_mix x0 x1) eI := v_callp (t := fun a : Int × Int => t_l_mix a.1 a.2) (a := (x0, x1)) r_l_mix h
theorem m_l_mix {ρ : KEnv} {fs : DL.Env → Res (List D)} {r : Res (Int × Int)} (h : EvR ρ fs r (qC eI (q1 eI))) : EvR ρ (eCall F_l_mix fs) (r.bind fun a => t_l_mix a.1 a.2) eI := v_call (t := fun a : Int × Int => t_l_mix a.1 a.2) r_l_mix h
noncomputable def t_l_word (n : Int) : Res Str :=
  (((((((((((((((strR ((10 ^ 18 : Int) + (1 : Int))).bind fun a1 => .ok (a1 :: [])).bind fun b4 => .ok (("1e3" : Str) :: b4)).bind fun b6 => .ok (("-07" : Str) :: b6)).bind fun b8 => .ok (("5-" : Str) :: b8)).bind fun b10 => .ok (("--2" : Str) :: b10)).bind fun b12 => .ok (("1.0" : Str) :: b12)).bind fun b14 => .ok (("x" : Str) :: b14)).bind fun b16 => .ok (("01" : Str) :: b16)).bind fun b18 => .ok (("1_0" : Str) :: b18)).bind fun b20 => .ok (("+1" : Str) :: b20)).bind fun b22 => .ok (("00" : Str) :: b22)).bind fun b24 => .ok (("-0" : Str) :: b24)).bind fun b26 => .ok (("-" : Str) :: b26)).bind fun b28 => .ok (("" : Str) :: b28)).bind fun some_29 =>
  (((strR ((-(10 ^ 18 : Int)) - (1 : Int))).bind fun a42 => ((timesR ("9" : Str) (19 : Int)).bind fun a40 => (((timesR ("0" : Str) (19 : Int)).bind fun b31 => (catS ("1" : Str) b31)).bind fun a38 => ((timesR ("7" : Str) (300 : Int)).bind fun a36 => ((strR (10 ^ 18 : Int)).bind fun a34 => ((strR (-(10 ^ 18 : Int))).bind fun a32 => .ok (a32 :: [("0" : Str)])).bind fun b35 => .ok (a34 :: b35)).bind fun b37 => .ok (a36 :: b37)).bind fun b39 => .ok (a38 :: b39)).bind fun b41 => .ok (a40 :: b41)).bind fun b43 => .ok (a42 :: b43)).bind fun b45 => (catR some_29 b45)).bind fun some_46 =>
  ((modR n ((some_46.length : Nat) : Int)).bind fun b48 => (getL some_46 b48))
theorem r_l_word : CallR F_l_word (q1 eI) (fun (a : Int) => t_l_word a) eS := by
  rintro n _ ⟨d0, rfl, h0⟩
  refine r_def (n := 1) (m := 2) (k := 1) (ρ := ([some (sh eI n)] : KEnv)) (LeA.cons h0 LeA.nil) rfl ?_
  exact (j_do (d_set (al := []) (v_lst (vl_c (v_c (E := eS) (a := ("" : Str)) rfl) (vl_c (v_c (E := eS) (a := ("-" : Str)) rfl) (vl_c (v_c (E := eS) (a := ("-0" : Str)) rfl) (vl_c (v_c (E := eS) (a := ("00" : Str)) rfl) (vl_c (v_c (E := eS) (a := ("+1" : Str)) rfl) (vl_c (v_c (E := eS) (a := ("1_0" : Str)) rfl) (vl_c (v_c (E := eS) (a := ("01" : Str)) rfl) (vl_c (v_c (E := eS) (a := ("x" : Str)) rfl) (vl_c (v_c (E := eS) (a := ("1.0" : Str)) rfl) (vl_c (v_c (E := eS) (a := ("--2" : Str)) rfl) (vl_c (v_c (E := eS) (a := ("5-" : Str)) rfl) (vl_c (v_c (E := eS) (a := ("-07" : Str)) rfl) (vl_c (v_c (E := eS) (a := ("1e3" : Str)) rfl) (vl_c (v_1p (o_strI _) (v_opp (o_add _ _) (v_opp (o_powL pow_10_18) (vN 10) (vN 18)) (vN 1))) vl_nil)))))))))))))))) (fun some_29 => (j_do (d_set (al := []) (v_op o_catL (v_s (E := (eL eS)) (a := some_29) (i := 1) rfl) (v_lst (vl_c (v_1p (o_strI _) (v_opp (o_sub _ _) (v_neg (v_opp (o_powL pow_10_18) (vN 10) (vN 18))) (vN 1))) (vl_c (v_opp (o_mulS _ _) (v_c (E := eS) (a := ("9" : Str)) rfl) (vN 19)) (vl_c (v_op o_catS (v_c (E := eS) (a := ("1" : Str)) rfl) (v_opp (o_mulS _ _) (v_c (E := eS) (a := ("0" : Str)) rfl) (vN 19))) (vl_c (v_opp (o_mulS _ _) (v_c (E := eS) (a := ("7" : Str)) rfl) (vN 300)) (vl_c (v_1p (o_strI _) (v_opp (o_powL pow_10_18) (vN 10) (vN 18))) (vl_c (v_1p (o_strI _) (v_neg (v_opp (o_powL pow_10_18) (vN 10) (vN 18)))) (vl_cp (v_c (E := eS) (a := ("0" : Str)) rfl) vl_nil)))))))))) (fun some_46 => (j_retT (v_op o_ixAL (v_s (E := (eL eS)) (a := some_46) (i := 1) rfl) (v_opp (o_mod _ _) (v_s (E := eI) (a := n) (i := 0) rfl) (v_1p (o_lenL _) (v_s (E := (eL eS)) (a := some_46) (i := 1) rfl)))))))))
theorem c_l_word {ρ : KEnv} {fs : DL.Env → Res (List D)} {x0 : Int} (h : EvR ρ fs (.ok x0) (q1 eI)) : EvR ρ (eCall F_l_word fs) (t_l_word x0) eS := v_callp (t := fun a : Int => t_l_word a) (a := x0) r_l_word h
theorem m_l_word {ρ : KEnv} {fs : DL.Env → Res (List D)} {r : Res (Int)} (h : EvR ρ fs r (q1 eI)) : EvR ρ (eCall F_l_word fs) (r.bind fun a => t_l_word a) eS := v_call (t := fun a : Int => t_l_word a) r_l_word h
noncomputable def t_l_spoiled (row : Str) (n : Int) : Res Str :=
  (splitR row (" " : Str)).bind fun words3 =>
  (modR (n / (8 : Int)) ((words3.length : Nat) : Int)).bind fun at_4 =>
  (if (n % (8 : Int)) = (0 : Int) then ((t_l_word (n / (64 : Int))).bind fun a7 => putLR words3 at_4 a7).bind fun words6 =>
  Res.ok words6 else Res.ok words3 : Res ((List Str))).bind fun z5 =>
  (if (n % (8 : Int)) = (1 : Int) then ((((Res.ok at_4)).bind fun a => ((t_l_word (n / (64 : Int)))).bind fun b => Res.ok (a, b)).bind fun p => insR z5 p.1 p.2).bind fun words10 =>
  Res.ok words10 else Res.ok z5 : Res ((List Str))).bind fun z9 =>
  (if (n % (8 : Int)) = (2 : Int) then (((Res.ok at_4)).bind fun a => popR z9 a).bind fun words12 =>
  Res.ok words12 else Res.ok z9 : Res ((List Str))).bind fun z11 =>
  (if (n % (8 : Int)) = (3 : Int) then (catR [("" : Str)] z11).bind fun words14 =>
  Res.ok words14 else Res.ok z11 : Res ((List Str))).bind fun z13 =>
  (if (n % (8 : Int)) = (4 : Int) then (appR z13 ("" : Str)).bind fun words16 =>
  Res.ok words16 else Res.ok z13 : Res ((List Str))).bind fun z15 =>
  (if (n % (8 : Int)) = (5 : Int) then ((((Res.ok at_4)).bind fun a => ((Res.ok ("" : Str))).bind fun b => Res.ok (a, b)).bind fun p => insR z15 p.1 p.2).bind fun words18 =>
  Res.ok words18 else Res.ok z15 : Res ((List Str))).bind fun z17 =>
  (if (n % (8 : Int)) = (6 : Int) then (Res.ok [("1" : Str), ("2" : Str), ("3" : Str), ("4" : Str), ("5" : Str)]).bind fun words20 =>
  Res.ok words20 else Res.ok z17 : Res ((List Str))).bind fun z19 =>
  (if (n % (8 : Int)) = (7 : Int) then (getL [("'" : Str), ("_" : Str), ("+" : Str), ("a" : Str)] ((n / (64 : Int)) % (4 : Int))).bind fun sign22 =>
  (((getL z19 at_4).bind fun a24 => (catS a24 sign22)).bind fun a26 => putLR z19 at_4 a26).bind fun words23 =>
  Res.ok words23 else Res.ok z19 : Res ((List Str))).bind fun z21 =>
  (joinR (" " : Str) z21)
theorem r_l_spoiled : CallR F_l_spoiled (qC eS (q1 eI)) (fun (a : Str × Int) => t_l_spoiled a.1 a.2) eS := by
  rintro ⟨row, n⟩ _ ⟨d0, _, rfl, h0, ⟨d1, rfl, h1⟩⟩
  refine r_def (n := 2) (m := 6) (k := 4) (ρ := ([some (sh eS row), some (sh eI n)] : KEnv)) (LeA.cons h0 (LeA.cons h1 LeA.nil)) rfl ?_
  exact (j_do (d_setF (al := []) (v_split (v_s (E := eS) (a := row) (i := 0) rfl) (v_c (E := eS) (a := (" " : Str)) rfl))) (fun words3 => (j_do (d_set (al := []) (v_opp (o_mod _ _) (v_opp (o_divL _ (by decide) (by decide)) (v_s (E := eI) (a := n) (i := 1) rfl) (vN 8)) (v_1p (o_lenL _) (v_o (E := (eL eS)) (a := words3) (i := 2) rfl)))) (fun at_4 => (j_go (g_set (al := []) (v_opp (o_modL _ (by decide)) (v_s (E := eI) (a := n) (i := 1) rfl) (vN 8))) (j_do (j_ifP (P := PN fun (z5 : ((List Str))) => ([some (sh eS row), some (sh eI n), some (ow (eL eS) z5), some (sh eI at_4), some (sh eI (n % (8 : Int))), none] : KEnv)) (al := []) (b_test (v_opp ((o_eq (EqE.int _)) _ _) (v_s (E := eI) (a := (n % (8 : Int))) (i := 4) rfl) (vN 0))) (j_do (d_putL (al := []) rfl (v_s (E := eI) (a := at_4) (i := 3) rfl) (c_l_word (vq_1 (v_opp (o_divL _ (by decide) (by decide)) (v_s (E := eI) (a := n) (i := 1) rfl) (vN 64))))) (fun words6 => (j_end (Sb.same (Sb.same (Sb.same (Sb.same (Sb.same (Sb.drop Sb.nil))))))))) (j_end (Sb.same (Sb.same (Sb.same (Sb.same (Sb.same (Sb.drop Sb.nil)))))))) (fun z5 => (j_do (j_ifP (P := PN fun (z9 : ((List Str))) => ([some (sh eS row), some (sh eI n), some (ow (eL eS) z9), some (sh eI at_4), some (sh eI (n % (8 : Int))), none] : KEnv)) (al := []) (b_test (v_opp ((o_eq (EqE.int _)) _ _) (v_s (E := eI) (a := (n % (8 : Int))) (i := 4) rfl) (vN 1))) (j_do (d_ins (al := []) rfl (v_s (E := eI) (a := at_4) (i := 3) rfl) (c_l_word (vq_1 (v_opp (o_divL _ (by decide) (by decide)) (v_s (E := eI) (a := n) (i := 1) rfl) (vN 64))))) (fun words10 => (j_end (Sb.same (Sb.same (Sb.same (Sb.same (Sb.same (Sb.drop Sb.nil))))))))) (j_end (Sb.same (Sb.same (Sb.same (Sb.same (Sb.same (Sb.drop Sb.nil)))))))) (fun z9 => (j_do (j_ifP (P := PN fun (z11 : ((List Str))) => ([some (sh eS row), some (sh eI n), some (ow (eL eS) z11), some (sh eI at_4), some (sh eI (n % (8 : Int))), none] : KEnv)) (al := []) (b_test (v_opp ((o_eq (EqE.int _)) _ _) (v_s (E := eI) (a := (n % (8 : Int))) (i := 4) rfl) (vN 2))) (j_do (d_pop (al := []) rfl (v_s (E := eI) (a := at_4) (i := 3) rfl)) (fun words12 => (j_end (Sb.same (Sb.same (Sb.same (Sb.same (Sb.same (Sb.drop Sb.nil))))))))) (j_end (Sb.same (Sb.same (Sb.same (Sb.same (Sb.same (Sb.drop Sb.nil)))))))) (fun z11 => (j_do (j_ifP (P := PN fun (z13 : ((List Str))) => ([some (sh eS row), some (sh eI n), some (ow (eL eS) z13), some (sh eI at_4), some (sh eI (n % (8 : Int))), none] : KEnv)) (al := []) (b_test (v_opp ((o_eq (EqE.int _)) _ _) (v_s (E := eI) (a := (n % (8 : Int))) (i := 4) rfl) (vN 3))) (j_do (d_setF (al := []) (v_opp (o_catF _ _) (v_lst (vl_cp (v_c (E := eS) (a := ("" : Str)) rfl) vl_nil)) (v_o (E := (eL eS)) (a := z11) (i := 2) rfl))) (fun words14 => (j_end (Sb.same (Sb.same (Sb.same (Sb.same (Sb.same (Sb.drop Sb.nil))))))))) (j_end (Sb.same (Sb.same (Sb.same (Sb.same (Sb.same (Sb.drop Sb.nil)))))))) (fun z13 => (j_do (j_ifP (P := PN fun (z15 : ((List Str))) => ([some (sh eS row), some (sh eI n), some (ow (eL eS) z15), some (sh eI at_4), some (sh eI (n % (8 : Int))), none] : KEnv)) (al := []) (b_test (v_opp ((o_eq (EqE.int _)) _ _) (v_s (E := eI) (a := (n % (8 : Int))) (i := 4) rfl) (vN 4))) (j_do (d_appP (al := []) rfl (v_c (E := eS) (a := ("" : Str)) rfl)) (fun words16 => (j_end (Sb.same (Sb.same (Sb.same (Sb.same (Sb.same (Sb.drop Sb.nil))))))))) (j_end (Sb.same (Sb.same (Sb.same (Sb.same (Sb.same (Sb.drop Sb.nil)))))))) (fun z15 => (j_do (j_ifP (P := PN fun (z17 : ((List Str))) => ([some (sh eS row), some (sh eI n), some (ow (eL eS) z17), some (sh eI at_4), some (sh eI (n % (8 : Int))), none] : KEnv)) (al := []) (b_test (v_opp ((o_eq (EqE.int _)) _ _) (v_s (E := eI) (a := (n % (8 : Int))) (i := 4) rfl) (vN 5))) (j_do (d_ins (al := []) rfl (v_s (E := eI) (a := at_4) (i := 3) rfl) (v_c (E := eS) (a := ("" : Str)) rfl)) (fun words18 => (j_end (Sb.same (Sb.same (Sb.same (Sb.same (Sb.same (Sb.drop Sb.nil))))))))) (j_end (Sb.same (Sb.same (Sb.same (Sb.same (Sb.same (Sb.drop Sb.nil)))))))) (fun z17 => (j_do (j_ifP (P := PN fun (z19 : ((List Str))) => ([some (sh eS row), some (sh eI n), some (ow (eL eS) z19), some (sh eI at_4), some (sh eI (n % (8 : Int))), none] : KEnv)) (al := []) (b_test (v_opp ((o_eq (EqE.int _)) _ _) (v_s (E := eI) (a := (n % (8 : Int))) (i := 4) rfl) (vN 6))) (j_do (d_setF (al := []) (v_lst (vl_cp (v_c (E := eS) (a := ("1" : Str)) rfl) (vl_cp (v_c (E := eS) (a := ("2" : Str)) rfl) (vl_cp (v_c (E := eS) (a := ("3" : Str)) rfl) (vl_cp (v_c (E := eS) (a := ("4" : Str)) rfl) (vl_cp (v_c (E := eS) (a := ("5" : Str)) rfl) vl_nil))))))) (fun words20 => (j_end (Sb.same (Sb.same (Sb.same (Sb.same (Sb.same (Sb.drop Sb.nil))))))))) (j_end (Sb.same (Sb.same (Sb.same (Sb.same (Sb.same (Sb.drop Sb.nil)))))))) (fun z19 => (j_do (j_ifP (P := PN fun (z21 : ((List Str))) => ([some (sh eS row), some (sh eI n), some (ow (eL eS) z21), some (sh eI at_4), some (sh eI (n % (8 : Int))), none] : KEnv)) (al := []) (b_test (v_opp ((o_eq (EqE.int _)) _ _) (v_s (E := eI) (a := (n % (8 : Int))) (i := 4) rfl) (vN 7))) (j_do (d_set (al := []) (v_opp (o_ixAL _ _) (v_lst (vl_cp (v_c (E := eS) (a := ("'" : Str)) rfl) (vl_cp (v_c (E := eS) (a := ("_" : Str)) rfl) (vl_cp (v_c (E := eS) (a := ("+" : Str)) rfl) (vl_cp (v_c (E := eS) (a := ("a" : Str)) rfl) vl_nil))))) (v_opp (o_modL _ (by decide)) (v_opp (o_divL _ (by decide) (by decide)) (v_s (E := eI) (a := n) (i := 1) rfl) (vN 64)) (vN 4)))) (fun sign22 => (j_do (d_putL (al := []) rfl (v_s (E := eI) (a := at_4) (i := 3) rfl) (v_op o_catS (v_opp (o_ixAL _ _) (v_o (E := (eL eS)) (a := z19) (i := 2) rfl) (v_s (E := eI) (a := at_4) (i := 3) rfl)) (v_s (E := eS) (a := sign22) (i := 5) rfl))) (fun words23 => (j_end (Sb.same (Sb.same (Sb.same (Sb.same (Sb.same (Sb.drop Sb.nil))))))))))) (j_end (Sb.same (Sb.same (Sb.same (Sb.same (Sb.same (Sb.drop Sb.nil)))))))) (fun z21 => (j_retT (v_join (v_c (E := eS) (a := (" " : Str)) rfl) (v_imp (v_o (E := (eL eS)) (a := z21) (i := 2) rfl) sq_L))))))))))))))))))))))))
theorem c_l_spoiled {ρ : KEnv} {fs : DL.Env → Res (List D)} {x0 : Str} {x1 : Int} (h : EvR ρ fs (.ok (x0, x1)) (qC eS (q1 eI))) : EvR ρ (eCall F_l_spoiled fs) (t_l_spoiled x0 x1) eS := v_callp (t := fun a : Str × Int => t_l_spoiled a.1 a.2) (a := (x0, x1)) r_l_spoiled h
theorem m_l_spoiled {ρ : KEnv} {fs : DL.Env → Res (List D)} {r : Res (Str × Int)} (h : EvR ρ fs r (qC eS (q1 eI))) : EvR ρ (eCall F_l_spoiled fs) (r.bind fun a => t_l_spoiled a.1 a.2) eS := v_call (t := fun a : Str × Int => t_l_spoiled a.1 a.2) r_l_spoiled h
noncomputable def t_l_made (cell : Int) (k : Int) : Res Str :=
  (t_l_mix cell k).bind fun n1 =>
  (Res.ok ((1 : Int) + (n1 % (4 : Int)))).bind fun wide2 =>
  (Res.ok ((1 : Int) + ((n1 / (4 : Int)) % (6 : Int)))).bind fun many3 =>
  (if ((n1 / (24 : Int)) % (8 : Int)) = (1 : Int) then (Res.ok ((38 : Int) + ((n1 / (192 : Int)) % (6 : Int)))).bind fun many5 =>
  Res.ok many5 else Res.ok many3 : Res (Int)).bind fun z4 =>
  ((rng1 z4).bind fun l26 => forR l26 ([] : List Str) (fun j7 s6 =>
  ((((rng1 wide2).bind fun l22 => compR l22 (fun i9 => (((((((mulR (9 : Int) j7).bind fun a10 => .ok (a10 + i9)).bind fun a12 => .ok (a12 + k)).bind fun a17 => t_l_mix cell a17).bind fun a18 => .ok (a18 % (30 : Int))).bind fun a19 => .ok (a19 - (9 : Int))).bind fun a21 => (strR a21)))).bind fun l24 => joinR (" " : Str) l24).bind fun a25 => appR s6 a25).bind fun rows8 =>
  Res.ok rows8) : Res ((List Str))).bind fun s6 =>
  ((rng1 ((n1 / (2000 : Int)) % (3 : Int))).bind fun l38 => forR l38 s6 (fun j28 s27 =>
  (t_l_mix cell ((777 : Int) + j28)).bind fun one29 =>
  (modR one29 z4).bind fun at_30 =>
  (((getL s27 at_30).bind fun a34 => t_l_spoiled a34 (one29 / (64 : Int))).bind fun a36 => putLR s27 at_30 a36).bind fun rows31 =>
  Res.ok rows31) : Res ((List Str))).bind fun s27 =>
  ((joinR ("
" : Str) s27).bind fun a41 => (getL [("" : Str), ("" : Str), ("" : Str), ("" : Str), ("
" : Str)] ((n1 / (7000 : Int)) % (5 : Int))).bind fun b42 => (catS a41 b42))
theorem r_l_made : CallR F_l_made (qC eI (q1 eI)) (fun (a : Int × Int) => t_l_made a.1 a.2) eS := by
  rintro ⟨cell, k⟩ _ ⟨d0, _, rfl, h0, ⟨d1, rfl, h1⟩⟩
  refine r_def (n := 2) (m := 10) (k := 8) (ρ := ([some (sh eI cell), some (sh eI k)] : KEnv)) (LeA.cons h0 (LeA.cons h1 LeA.nil)) rfl ?_
  exact (j_do (d_set (al := []) (c_l_mix (vq_cp (v_s (E := eI) (a := cell) (i := 0) rfl) (vq_1 (v_s (E := eI) (a := k) (i := 1) rfl))))) (fun n1 => (j_do (d_set (al := []) (v_opp (o_add _ _) (vN 1) (v_opp (o_modL _ (by decide)) (v_s (E := eI) (a := n1) (i := 2) rfl) (vN 4)))) (fun wide2 => (j_do (d_set (al := []) (v_opp (o_add _ _) (vN 1) (v_opp (o_modL _ (by decide)) (v_opp (o_divL _ (by decide) (by decide)) (v_s (E := eI) (a := n1) (i := 2) rfl) (vN 4)) (vN 6)))) (fun many3 => (j_do (j_ifP (P := PN fun (z4 : (Int)) => ([some (sh eI cell), some (sh eI k), some (sh eI n1), some (sh eI wide2), some (sh eI z4), none, none, none, none, none] : KEnv)) (al := []) (b_test (v_opp ((o_eq (EqE.int _)) _ _) (v_opp (o_modL _ (by decide)) (v_opp (o_divL _ (by decide) (by decide)) (v_s (E := eI) (a := n1) (i := 2) rfl) (vN 24)) (vN 8)) (vN 1))) (j_do (d_set (al := []) (v_opp (o_add _ _) (vN 38) (v_opp (o_modL _ (by decide)) (v_opp (o_divL _ (by decide) (by decide)) (v_s (E := eI) (a := n1) (i := 2) rfl) (vN 192)) (vN 6)))) (fun many5 => (j_end (Sb.same (Sb.same (Sb.same (Sb.same (Sb.same (Sb.drop (Sb.drop (Sb.drop (Sb.drop (Sb.drop Sb.nil))))))))))))) (j_end (Sb.same (Sb.same (Sb.same (Sb.same (Sb.same (Sb.drop (Sb.drop (Sb.drop (Sb.drop (Sb.drop Sb.nil)))))))))))) (fun z4 => (j_go (g_setF (al := []) (v_lst (vl_nil (E := eS)))) (j_do (d_for (al := []) (ρs := fun (s6 : ((List Str))) => ([some (sh eI cell), some (sh eI k), some (sh eI n1), some (sh eI wide2), some (sh eI z4), some (ow (eL eS) s6), none, none, none, none] : KEnv)) (ρb := fun j7 (s6 : ((List Str))) => ([some (sh eI cell), some (sh eI k), some (sh eI n1), some (sh eI wide2), some (sh eI z4), some (ow (eL eS) s6), some (sh eI j7), none, none, none] : KEnv)) (v_rng1p (v_s (E := eI) (a := z4) (i := 4) rfl)) (Sb.same (Sb.same (Sb.same (Sb.same (Sb.same (Sb.same (Sb.drop (Sb.drop (Sb.drop (Sb.drop Sb.nil)))))))))) (fun j7 s6 => (p_nm (i := 6))) (fun j7 s6 => (j_do (d_app (al := []) rfl (v_join (v_c (E := eS) (a := (" " : Str)) rfl) (v_imp (v_comp (ρb := fun i9 => ([some (sh eI cell), some (sh eI k), some (sh eI n1), some (sh eI wide2), some (sh eI z4), some (ow (eL eS) s6), some (sh eI j7), some (sh eI i9), none, none] : KEnv)) (v_rng1p (v_s (E := eI) (a := wide2) (i := 3) rfl)) (fun i9 => (p_nm (i := 7))) (fun i9 => (v_1 o_strI (v_op o_sub (v_opl (fun a => o_modL a (by decide)) (v_eqr (r := ((((mulR (9 : Int) j7).bind fun a10 => .ok (a10 + i9)).bind fun a12 => .ok (a12 + k)).bind fun b15 => .ok (cell, b15)).bind fun a => t_l_mix a.1 a.2) (m_l_mix (vq_c (v_s (E := eI) (a := cell) (i := 0) rfl) (vq_1 (v_op o_add (v_op o_add (v_opp (o_mul _ _) (vN 9) (v_s (E := eI) (a := j7) (i := 6) rfl)) (v_s (E := eI) (a := i9) (i := 7) rfl)) (v_s (E := eI) (a := k) (i := 1) rfl))))) (by first | (simp only [Res.assoc, Res.bind_ok]; done) | (simp only [Res.assoc, Res.bind_ok]; rfl))) (vN 30)) (vN 9))))) sq_L))) (fun rows8 => (j_endB (Sb.same (Sb.same (Sb.same (Sb.same (Sb.same (Sb.same (Sb.drop (Sb.drop (Sb.drop (Sb.drop Sb.nil))))))))))))))) (fun s6 => (j_do (d_for (al := []) (ρs := fun (s27 : ((List Str))) => ([some (sh eI cell), some (sh eI k), some (sh eI n1), some (sh eI wide2), some (sh eI z4), some (ow (eL eS) s27), none, none, none, none] : KEnv)) (ρb := fun j28 (s27 : ((List Str))) => ([some (sh eI cell), some (sh eI k), some (sh eI n1), some (sh eI wide2), some (sh eI z4), some (ow (eL eS) s27), some (sh eI j28), none, none, none] : KEnv)) (v_rng1p (v_opp (o_modL _ (by decide)) (v_opp (o_divL _ (by decide) (by decide)) (v_s (E := eI) (a := n1) (i := 2) rfl) (vN 2000)) (vN 3))) (Sb.same (Sb.same (Sb.same (Sb.same (Sb.same (Sb.same (Sb.drop (Sb.drop (Sb.drop (Sb.drop Sb.nil)))))))))) (fun j28 s27 => (p_nm (i := 6))) (fun j28 s27 => (j_do (d_set (al := []) (c_l_mix (vq_cp (v_s (E := eI) (a := cell) (i := 0) rfl) (vq_1 (v_opp (o_add _ _) (vN 777) (v_s (E := eI) (a := j28) (i := 6) rfl)))))) (fun one29 => (j_do (d_set (al := []) (v_opp (o_mod _ _) (v_s (E := eI) (a := one29) (i := 8) rfl) (v_s (E := eI) (a := z4) (i := 4) rfl))) (fun at_30 => (j_do (d_putL (al := []) rfl (v_s (E := eI) (a := at_30) (i := 9) rfl) (v_eqr (r := ((getL s27 at_30).bind fun a32 => .ok (a32, (one29 / (64 : Int)))).bind fun a => t_l_spoiled a.1 a.2) (m_l_spoiled (vq_c (v_opp (o_ixAL _ _) (v_o (E := (eL eS)) (a := s27) (i := 5) rfl) (v_s (E := eI) (a := at_30) (i := 9) rfl)) (vq_1 (v_opp (o_divL _ (by decide) (by decide)) (v_s (E := eI) (a := one29) (i := 8) rfl) (vN 64))))) (by first | (simp only [Res.assoc, Res.bind_ok]; done) | (simp only [Res.assoc, Res.bind_ok]; rfl)))) (fun rows31 => (j_endB (Sb.same (Sb.same (Sb.same (Sb.same (Sb.same (Sb.same (Sb.drop (Sb.drop (Sb.drop (Sb.drop Sb.nil))))))))))))))))))) (fun s27 => (j_retT (v_op o_catS (v_join (v_c (E := eS) (a := ("
" : Str)) rfl) (v_imp (v_o (E := (eL eS)) (a := s27) (i := 5) rfl) sq_L)) (v_opp (o_ixAL _ _) (v_lst (vl_cp (v_c (E := eS) (a := ("" : Str)) rfl) (vl_cp (v_c (E := eS) (a := ("" : Str)) rfl) (vl_cp (v_c (E := eS) (a := ("" : Str)) rfl) (vl_cp (v_c (E := eS) (a := ("" : Str)) rfl) (vl_cp (v_c (E := eS) (a := ("
" : Str)) rfl) vl_nil)))))) (v_opp (o_modL _ (by decide)) (v_opp (o_divL _ (by decide) (by decide)) (v_s (E := eI) (a := n1) (i := 2) rfl) (vN 7000)) (vN 5))))))))))))))))))
theorem c_l_made {ρ : KEnv} {fs : DL.Env → Res (List D)} {x0 : Int} {x1 : Int} (h : EvR ρ fs (.ok (x0, x1)) (qC eI (q1 eI))) : EvR ρ (eCall F_l_made fs) (t_l_made x0 x1) eS := v_callp (t := fun a : Int × Int => t_l_made a.1 a.2) (a := (x0, x1)) r_l_made h
theorem m_l_made {ρ : KEnv} {fs : DL.Env → Res (List D)} {r : Res (Int × Int)} (h : EvR ρ fs r (qC eI (q1 eI))) : EvR ρ (eCall F_l_made fs) (r.bind fun a => t_l_made a.1 a.2) eS := v_call (t := fun a : Int × Int => t_l_made a.1 a.2) r_l_made h
noncomputable def t_table_of (rows : (List (List Int))) : Res (List (List Int)) :=
  if (40 : Int) < ((rows.length : Nat) : Int) then
  Res.exc "TooMany" []
else
  (sortKR rows)
theorem r_table_of : CallR F_table_of (q1 (eL eR)) (fun (a : (List (List Int))) => t_table_of a) (eT eR) := by
  rintro rows _ ⟨d0, rfl, h0⟩
  refine r_def (n := 1) (m := 1) (k := 0) (ρ := ([some (sh (eL eR) rows)] : KEnv)) (LeA.cons h0 LeA.nil) rfl ?_
  exact (j_ifsP (al := []) (b_test (v_opp (o_gt _ _) (v_1p (o_lenL _) (v_s (E := (eL eR)) (a := rows) (i := 0) rfl)) (vN 40))) (j_assoc j_raise) (j_skip (j_retT (v_1i o_tupL (v_1p (o_sortLK _) (v_s (E := (eL eR)) (a := rows) (i := 0) rfl))))))
theorem c_table_of {ρ : KEnv} {fs : DL.Env → Res (List D)} {x0 : (List (List Int))} (h : EvR ρ fs (.ok x0) (q1 (eL eR))) : EvR ρ (eCall F_table_of fs) (t_table_of x0) (eT eR) := v_callp (t := fun a : (List (List Int)) => t_table_of a) (a := x0) r_table_of h
theorem m_table_of {ρ : KEnv} {fs : DL.Env → Res (List D)} {r : Res ((List (List Int)))} (h : EvR ρ fs r (q1 (eL eR))) : EvR ρ (eCall F_table_of fs) (r.bind fun a => t_table_of a) (eT eR) := v_call (t := fun a : (List (List Int)) => t_table_of a) r_table_of h
noncomputable def t_field_in (word : Str) : Res (Option Int) :=
  (((cutSR word none (some (1 : Int))).bind fun a4 => .ok (decide (a4 = ("-" : Str)))).bind fun z => if z = true then (cutSR word (some (1 : Int)) none).bind fun figures10 =>
  Res.ok figures10 else Res.ok word : Res (Str)).bind fun z6 =>
  (((lenS z6).bind fun a11 => .ok (decide (a11 < (1 : Int)))).bind fun z => if z = true then .ok true else ((lenS z6).bind fun a13 => .ok (decide ((19 : Int) < a13)))).bind fun z => if z = true then
  Res.ok none
else
  thenX (forX (signsT z6) () (fun sign16 s15 =>
  if (strIn sign16 ("0123456789" : Str) != true) = true then
  Res.ok (.rt none)
else
  Res.ok (.nx ())) : Res (Oc Unit (Option Int))) (fun v => v) fun s15 =>
  (((ixS z6 (0 : Int)).bind fun a17 => .ok (decide (a17 = ("0" : Str)))).bind fun z => if z = true then (Res.ok (decide (word ≠ ("0" : Str)))) else .ok false).bind fun z => if z = true then
  Res.ok none
else
  (intTR z6).bind fun n19 =>
  if (1000000000000000000 : Int) < n19 then
  Res.ok none
else
  ((cutSR word none (some (1 : Int))).bind fun a23 => .ok (decide (a23 = ("-" : Str)))).bind fun z => if z = true then
  Res.ok (some (-n19))
else
  Res.ok (some n19)
theorem r_field_in : CallR F_field_in (q1 eS) (fun (a : Str) => t_field_in a) (eO eI) := by
  rintro word _ ⟨d0, rfl, h0⟩
  refine r_def (n := 1) (m := 4) (k := 3) (ρ := ([some (sh eS word)] : KEnv)) (LeA.cons h0 LeA.nil) rfl ?_
  exact (j_go (g_set (al := []) (v_s (E := eS) (a := word) (i := 0) rfl)) (j_do (j_if (P := PN fun (z6 : (Str)) => ([some (sh eS word), some (sh eS z6), none, none] : KEnv)) (al := []) (b_test (v_op o_eqS (v_cutG cut_S (v_s (E := eS) (a := word) (i := 0) rfl) vo_n (vo_s (vN 1))) (v_c (E := eS) (a := ("-" : Str)) rfl))) (j_do (d_set (al := []) (v_cutG cut_S (v_s (E := eS) (a := word) (i := 0) rfl) (vo_s (vN 1)) vo_n)) (fun figures10 => (j_end (Sb.same (Sb.same (Sb.drop (Sb.drop Sb.nil))))))) (j_end (Sb.same (Sb.same (Sb.drop (Sb.drop Sb.nil)))))) (fun z6 => (j_ifs (al := []) (b_or (b_test (v_op o_lt (v_1p (o_lenS _) (v_s (E := eS) (a := z6) (i := 1) rfl)) (vN 1))) (b_test (v_op o_gt (v_1p (o_lenS _) (v_s (E := eS) (a := z6) (i := 1) rfl)) (vN 19)))) (j_assoc (j_retT (v_cast (E' := (eO eI)) (c := none) (v_c (E := eN) (a := ()) rfl) fun _ h => h))) (j_skip (j_xT (d_forXP (E' := (eO eI)) (al := []) (ρs := fun (s15 : Unit) => ([some (sh eS word), some (sh eS z6), none, none] : KEnv)) (ρb := fun sign16 (s15 : Unit) => ([some (sh eS word), some (sh eS z6), some (sh eS sign16), none] : KEnv)) (v_seqSp (v_s (E := eS) (a := z6) (i := 1) rfl)) (Sb.same (Sb.same (Sb.drop (Sb.drop Sb.nil)))) (fun sign16 s15 => (p_nm (i := 2))) (fun sign16 s15 => (j_ifsP (al := []) (b_test (v_P (v_opp ((o_inSS true) _ _) (v_s (E := eS) (a := sign16) (i := 2) rfl) (v_c (E := eS) (a := ("0123456789" : Str)) rfl)))) (j_assoc (j_retL (v_cast (E' := (eO eI)) (c := none) (v_c (E := eN) (a := ()) rfl) fun _ h => h))) (j_skip (j_endL (Sb.same (Sb.same (Sb.drop (Sb.drop Sb.nil))))))))) (fun s15 => (j_ifs (al := []) (b_and (b_test (v_op o_eqS (v_opp (o_ixS _ _) (v_s (E := eS) (a := z6) (i := 1) rfl) (vN 0)) (v_c (E := eS) (a := ("0" : Str)) rfl))) (b_test (v_opp (o_neS _ _) (v_s (E := eS) (a := word) (i := 0) rfl) (v_c (E := eS) (a := ("0" : Str)) rfl)))) (j_assoc (j_retT (v_cast (E' := (eO eI)) (c := none) (v_c (E := eN) (a := ()) rfl) fun _ h => h))) (j_skip (j_do (d_set (al := []) (v_1p (o_intT _) (v_s (E := eS) (a := z6) (i := 1) rfl))) (fun n19 => (j_ifsP (al := []) (b_test (v_opp (o_gt _ _) (v_s (E := eI) (a := n19) (i := 3) rfl) (vN 1000000000000000000))) (j_assoc (j_retT (v_cast (E' := (eO eI)) (c := none) (v_c (E := eN) (a := ()) rfl) fun _ h => h))) (j_skip (j_ifs (al := []) (b_test (v_op o_eqS (v_cutG cut_S (v_s (E := eS) (a := word) (i := 0) rfl) vo_n (vo_s (vN 1))) (v_c (E := eS) (a := ("-" : Str)) rfl))) (j_assoc (j_retT (v_cast (E' := (eO eI)) (c := some (-n19)) (v_neg (v_s (E := eI) (a := n19) (i := 3) rfl)) fun _ h => h))) (j_skip (j_retT (v_cast (E' := (eO eI)) (c := some n19) (v_s (E := eI) (a := n19) (i := 3) rfl) fun _ h => h)))))))))))))))))
theorem c_field_in {ρ : KEnv} {fs : DL.Env → Res (List D)} {x0 : Str} (h : EvR ρ fs (.ok x0) (q1 eS)) : EvR ρ (eCall F_field_in fs) (t_field_in x0) (eO eI) := v_callp (t := fun a : Str => t_field_in a) (a := x0) r_field_in h
theorem m_field_in {ρ : KEnv} {fs : DL.Env → Res (List D)} {r : Res (Str)} (h : EvR ρ fs r (q1 eS)) : EvR ρ (eCall F_field_in fs) (r.bind fun a => t_field_in a) (eO eI) := v_call (t := fun a : Str => t_field_in a) r_field_in h
noncomputable def t_row_in (text : Str) : Res (Option (List Int)) :=
  thenX ((splitR text (" " : Str)).bind fun l8 => forX l8 ([] : List Int) (fun word4 s3 =>
  (t_field_in word4).bind fun n5 =>
  if n5 = none then
  Res.ok (.rt none)
else
  ((optR n5).bind fun a7 => appR s3 a7).bind fun row6 =>
  Res.ok (.nx row6)) : Res (Oc ((List Int)) (Option (List Int)))) (fun v => v) fun s3 =>
  if (4 : Int) < ((s3.length : Nat) : Int) then
  Res.ok none
else
  Res.ok (some s3)
theorem r_row_in : CallR F_row_in (q1 eS) (fun (a : Str) => t_row_in a) (eO eR) := by
  rintro text _ ⟨d0, rfl, h0⟩
  refine r_def (n := 1) (m := 4) (k := 3) (ρ := ([some (sh eS text)] : KEnv)) (LeA.cons h0 LeA.nil) rfl ?_
  exact (j_go (g_setF (al := []) (v_lst (vl_nil (E := eI)))) (j_xT (d_forX (E' := (eO eR)) (al := []) (ρs := fun (s3 : ((List Int))) => ([some (sh eS text), some (ow (eL eI) s3), none, none] : KEnv)) (ρb := fun word4 (s3 : ((List Int))) => ([some (sh eS text), some (ow (eL eI) s3), some (sh eS word4), none] : KEnv)) (v_seqL (v_split (v_s (E := eS) (a := text) (i := 0) rfl) (v_c (E := eS) (a := (" " : Str)) rfl))) (Sb.same (Sb.same (Sb.drop (Sb.drop Sb.nil)))) (fun word4 s3 => (p_nm (i := 2))) (fun word4 s3 => (j_do (d_set (al := []) (c_field_in (vq_1 (v_s (E := eS) (a := word4) (i := 2) rfl)))) (fun n5 => (j_ifsP (al := []) (b_test (v_opp ((o_isN (nn_I)) _ _) (v_s (E := (eO eI)) (a := n5) (i := 3) rfl) (v_c (E := eN) (a := ()) rfl))) (j_assoc (j_retL (v_cast (E' := (eO eR)) (c := none) (v_c (E := eN) (a := ()) rfl) fun _ h => h))) (j_skip (j_do (d_app (al := []) rfl (v_asO (v_s (E := (eO eI)) (a := n5) (i := 3) rfl))) (fun row6 => (j_endL (Sb.same (Sb.same (Sb.drop (Sb.drop Sb.nil))))))))))))) (fun s3 => (j_ifsP (al := []) (b_test (v_opp (o_gt _ _) (v_1p (o_lenL _) (v_o (E := (eL eI)) (a := s3) (i := 1) rfl)) (vN 4))) (j_assoc (j_retT (v_cast (E' := (eO eR)) (c := none) (v_c (E := eN) (a := ()) rfl) fun _ h => h))) (j_skip (j_retT (v_cast (E' := (eO eR)) (c := some s3) (v_1p (o_tupLR _) (v_o (E := (eL eI)) (a := s3) (i := 1) rfl)) fun _ h => h)))))))
theorem c_row_in {ρ : KEnv} {fs : DL.Env → Res (List D)} {x0 : Str} (h : EvR ρ fs (.ok x0) (q1 eS)) : EvR ρ (eCall F_row_in fs) (t_row_in x0) (eO eR) := v_callp (t := fun a : Str => t_row_in a) (a := x0) r_row_in h
theorem m_row_in {ρ : KEnv} {fs : DL.Env → Res (List D)} {r : Res (Str)} (h : EvR ρ fs r (q1 eS)) : EvR ρ (eCall F_row_in fs) (r.bind fun a => t_row_in a) (eO eR) := v_call (t := fun a : Str => t_row_in a) r_row_in h
noncomputable def t_table_read (text : Str) : Res (List (List Int)) :=
  if text = ("" : Str) then
  (t_table_of ([] : List (List Int)))
else
  (((splitR text ("
" : Str)).bind fun l => .ok (enumL 0 l)).bind fun l12 => forR l12 ([] : List (List Int)) (fun z4 s3 =>
  (t_row_in z4.2).bind fun row5 =>
  (if row5 = none then .ok true else (if (40 : Int) ≤ z4.1 then .ok true else (if (0 : Int) < z4.1 then (((optR row5).bind fun a6 => .ok ((a6.length : Nat) : Int)).bind fun a8 => ((getL s3 (0 : Int)).bind fun a7 => .ok ((a7.length : Nat) : Int)).bind fun b9 => .ok (decide (a8 ≠ b9))) else .ok false))).bind fun z => if z = true then
  (Res.ok (("no row of this table" : Str), (D.int (z4.1 + (1 : Int))))).bind fun v => Res.exc "BadText" [(D.str "row", v.2)]
else
  ((optR row5).bind fun a11 => appR s3 a11).bind fun rows10 =>
  Res.ok rows10) : Res ((List (List Int)))).bind fun s3 =>
  (t_table_of s3)
theorem r_table_read : CallR F_table_read (q1 eS) (fun (a : Str) => t_table_read a) (eT eR) := by
  rintro text _ ⟨d0, rfl, h0⟩
  refine r_def (n := 1) (m := 5) (k := 4) (ρ := ([some (sh eS text)] : KEnv)) (LeA.cons h0 LeA.nil) rfl ?_
  exact (j_go (g_setF (al := []) (v_lst (vl_nil (E := eR)))) (j_ifsP (al := []) (b_test (v_opp (o_eqS _ _) (v_s (E := eS) (a := text) (i := 0) rfl) (v_c (E := eS) (a := ("" : Str)) rfl))) (j_assoc (j_retT (c_table_of (vq_1 (v_o (E := (eL eR)) (a := ([] : List (List Int))) (i := 1) rfl))))) (j_skip (j_do (d_for (al := []) (ρs := fun (s3 : ((List (List Int)))) => ([some (sh eS text), some (ow (eL eR) s3), none, none, none] : KEnv)) (ρb := fun z4 (s3 : ((List (List Int)))) => ([some (sh eS text), some (ow (eL eR) s3), some (sh eI z4.1), some (sh eS z4.2), none] : KEnv)) (v_enumL (v_split (v_s (E := eS) (a := text) (i := 0) rfl) (v_c (E := eS) (a := ("
" : Str)) rfl))) (Sb.same (Sb.same (Sb.drop (Sb.drop (Sb.drop Sb.nil))))) (fun z4 s3 => (p_tp (ps_c' (p_nm (i := 2)) (ps_1 (p_nm (i := 3)))))) (fun z4 s3 => (j_do (d_set (al := []) (c_row_in (vq_1 (v_s (E := eS) (a := z4.2) (i := 3) rfl)))) (fun row5 => (j_ifs (al := []) (b_orM (b_test (v_opp ((o_isN (nn_R)) _ _) (v_s (E := (eO eR)) (a := row5) (i := 4) rfl) (v_c (E := eN) (a := ()) rfl))) (b_orM (b_test (v_opp (o_ge _ _) (v_s (E := eI) (a := z4.1) (i := 2) rfl) (vN 40))) (b_andM (b_test (v_opp (o_gt _ _) (v_s (E := eI) (a := z4.1) (i := 2) rfl) (vN 0))) (b_test (v_op (o_ne (EqE.int _)) (v_1 o_lenR (v_asO (v_s (E := (eO eR)) (a := row5) (i := 4) rfl))) (v_1 o_lenR (v_opp (o_ixL _ _) (v_o (E := (eL eR)) (a := s3) (i := 1) rfl) (vN 0)))))))) (j_assoc (j_raiseX1 (al := []) (vq_cp (v_c (E := eS) (a := ("no row of this table" : Str)) rfl) (vq_1 (v_castF (f := D.int) Fun.int (v_opp (o_add _ _) (v_s (E := eI) (a := z4.1) (i := 2) rfl) (vN 1))))))) (j_skip (j_do (d_app (al := []) rfl (v_asO (v_s (E := (eO eR)) (a := row5) (i := 4) rfl))) (fun rows10 => (j_endB (Sb.same (Sb.same (Sb.drop (Sb.drop (Sb.drop Sb.nil)))))))))))))) (fun s3 => (j_retT (c_table_of (vq_1 (v_o (E := (eL eR)) (a := s3) (i := 1) rfl)))))))))
theorem c_table_read {ρ : KEnv} {fs : DL.Env → Res (List D)} {x0 : Str} (h : EvR ρ fs (.ok x0) (q1 eS)) : EvR ρ (eCall F_table_read fs) (t_table_read x0) (eT eR) := v_callp (t := fun a : Str => t_table_read a) (a := x0) r_table_read h
theorem m_table_read {ρ : KEnv} {fs : DL.Env → Res (List D)} {r : Res (Str)} (h : EvR ρ fs r (q1 eS)) : EvR ρ (eCall F_table_read fs) (r.bind fun a => t_table_read a) (eT eR) := v_call (t := fun a : Str => t_table_read a) r_table_read h
noncomputable def t_l_row_told (text : Str) : Res Int :=
  (hitX [(h_BadText, (fun c kv => ((fldR (a_row c) kv "row").bind D.asI).bind fun told9 =>
  (((optR (i_BlurError c)).bind fun z => .ok (!z)).bind fun z => if z = true then .ok true else ((optR (i_ValueError c)).bind fun z => .ok (!z))).bind fun z => if z = true then (Res.ok (-(2 : Int))).bind fun told10 =>
  Res.ok told10 else Res.ok told9))] ((t_table_read text).bind fun found1 =>
  ((((splitR text ("
" : Str)).bind fun a4 => .ok ((a4.length : Nat) : Int)).bind fun b6 => .ok (decide (((found1.length : Nat) : Int) ≠ b6))).bind fun z => if z = true then (Res.ok (decide (text ≠ ("" : Str)))) else .ok false).bind fun z => if z = true then (Res.ok (-(1 : Int))).bind fun told7 =>
  Res.ok told7 else Res.ok (0 : Int)) : Res (Int)).bind fun z8 =>
  Res.ok z8
theorem r_l_row_told : CallR F_l_row_told (q1 eS) (fun (a : Str) => t_l_row_told a) eI := by
  rintro text _ ⟨d0, rfl, h0⟩
  refine r_def (n := 1) (m := 4) (k := 3) (ρ := ([some (sh eS text)] : KEnv)) (LeA.cons h0 LeA.nil) rfl ?_
  exact (j_go (g_set (al := []) (vN 0)) (j_do (j_tryX (ρx := ([some (sh eS text), some (sh eI (0 : Int)), none, none] : KEnv)) (ρs := fun (z8 : (Int)) => ([some (sh eS text), some (sh eI z8), none, none] : KEnv)) (t_do (t_set (al := []) (Sb.same (Sb.same (Sb.drop (Sb.drop Sb.nil)))) (c_table_read (vq_1 (v_s (E := eS) (a := text) (i := 0) rfl)))) (fun found1 => (t_ifs (Sb.same (Sb.same (Sb.drop (Sb.drop Sb.nil)))) (b_and (b_test (v_op (o_ne (EqE.int _)) (v_1p (o_lenT _) (v_s (E := (eT eR)) (a := found1) (i := 2) rfl)) (v_1 o_lenL (v_split (v_s (E := eS) (a := text) (i := 0) rfl) (v_c (E := eS) (a := ("
" : Str)) rfl))))) (b_test (v_opp (o_neS _ _) (v_s (E := eS) (a := text) (i := 0) rfl) (v_c (E := eS) (a := ("" : Str)) rfl)))) (t_assoc (t_do (t_set (al := []) (Sb.same (Sb.same (Sb.drop (Sb.drop Sb.nil)))) (v_neg (vN 1))) (fun told7 => (t_end (Sb.same (Sb.same (Sb.drop (Sb.drop Sb.nil)))))))) (t_skip (t_end (Sb.same (Sb.same (Sb.drop (Sb.drop Sb.nil))))))))) (HUX.cons (fun c kv => (uhx_set (by decide) Fun.int (fun a d hd => (v_asI (v_fld hd rfl))) (fun told9 => (uhx_ifs (fun a d hd => (b_or (b_not (b_truB (v_isF rfl))) (b_not (b_truB (v_isF rfl))))) (uhx_assoc (uhx_set (by decide) Fun.int (fun a d hd => (v_neg (vN 2))) (fun told10 => (uhx_skip (uhx_end (Sb.same (Sb.same (Sb.drop (Sb.drop Sb.nil))))))))) (uhx_skip (uhx_end (Sb.same (Sb.same (Sb.drop (Sb.drop Sb.nil)))))))))) HUX.nil)) (fun z8 => (j_retT (v_s (E := eI) (a := z8) (i := 1) rfl)))))
theorem c_l_row_told {ρ : KEnv} {fs : DL.Env → Res (List D)} {x0 : Str} (h : EvR ρ fs (.ok x0) (q1 eS)) : EvR ρ (eCall F_l_row_told fs) (t_l_row_told x0) eI := v_callp (t := fun a : Str => t_l_row_told a) (a := x0) r_l_row_told h
theorem m_l_row_told {ρ : KEnv} {fs : DL.Env → Res (List D)} {r : Res (Str)} (h : EvR ρ fs r (q1 eS)) : EvR ρ (eCall F_l_row_told fs) (r.bind fun a => t_l_row_told a) eI := v_call (t := fun a : Str => t_l_row_told a) r_l_row_told h
noncomputable def t_l_is_number (word_here : Str) : Res Bool :=
  (((cutSR word_here none (some (1 : Int))).bind fun a4 => .ok (decide (a4 = ("-" : Str)))).bind fun z => if z = true then (cutSR word_here (some (1 : Int)) none).bind fun figures10 =>
  Res.ok figures10 else Res.ok word_here : Res (Str)).bind fun z6 =>
  (((lenS z6).bind fun a11 => .ok (decide (a11 < (1 : Int)))).bind fun z => if z = true then .ok true else (((lenS z6).bind fun a13 => .ok (decide ((19 : Int) < a13))).bind fun z => if z = true then .ok true else (((ixS z6 (0 : Int)).bind fun a15 => .ok (decide (a15 = ("0" : Str)))).bind fun z => if z = true then (Res.ok (decide (word_here ≠ ("0" : Str)))) else .ok false))).bind fun z => if z = true then
  Res.ok false
else
  thenX (forX (signsT z6) () (fun sign18 s17 =>
  if (strIn sign18 ("0123456789" : Str) != true) = true then
  Res.ok (.rt false)
else
  Res.ok (.nx ())) : Res (Oc Unit Bool)) (fun v => v) fun s17 =>
  ((intTR z6).bind fun a19 => .ok (decide (a19 ≤ (10 ^ 18 : Int))))
theorem r_l_is_number : CallR F_l_is_number (q1 eS) (fun (a : Str) => t_l_is_number a) eB := by
  rintro word_here _ ⟨d0, rfl, h0⟩
  refine r_def (n := 1) (m := 3) (k := 2) (ρ := ([some (sh eS word_here)] : KEnv)) (LeA.cons h0 LeA.nil) rfl ?_
  exact (j_go (g_set (al := []) (v_s (E := eS) (a := word_here) (i := 0) rfl)) (j_do (j_if (P := PN fun (z6 : (Str)) => ([some (sh eS word_here), some (sh eS z6), none] : KEnv)) (al := []) (b_test (v_op o_eqS (v_cutG cut_S (v_s (E := eS) (a := word_here) (i := 0) rfl) vo_n (vo_s (vN 1))) (v_c (E := eS) (a := ("-" : Str)) rfl))) (j_do (d_set (al := []) (v_cutG cut_S (v_s (E := eS) (a := word_here) (i := 0) rfl) (vo_s (vN 1)) vo_n)) (fun figures10 => (j_end (Sb.same (Sb.same (Sb.drop Sb.nil)))))) (j_end (Sb.same (Sb.same (Sb.drop Sb.nil))))) (fun z6 => (j_ifs (al := []) (b_or (b_test (v_op o_lt (v_1p (o_lenS _) (v_s (E := eS) (a := z6) (i := 1) rfl)) (vN 1))) (b_or (b_test (v_op o_gt (v_1p (o_lenS _) (v_s (E := eS) (a := z6) (i := 1) rfl)) (vN 19))) (b_and (b_test (v_op o_eqS (v_opp (o_ixS _ _) (v_s (E := eS) (a := z6) (i := 1) rfl) (vN 0)) (v_c (E := eS) (a := ("0" : Str)) rfl))) (b_test (v_opp (o_neS _ _) (v_s (E := eS) (a := word_here) (i := 0) rfl) (v_c (E := eS) (a := ("0" : Str)) rfl)))))) (j_assoc (j_retT (v_c (E := eB) (a := false) rfl))) (j_skip (j_xT (d_forXP (E' := eB) (al := []) (ρs := fun (s17 : Unit) => ([some (sh eS word_here), some (sh eS z6), none] : KEnv)) (ρb := fun sign18 (s17 : Unit) => ([some (sh eS word_here), some (sh eS z6), some (sh eS sign18)] : KEnv)) (v_seqSp (v_s (E := eS) (a := z6) (i := 1) rfl)) (Sb.same (Sb.same (Sb.drop Sb.nil))) (fun sign18 s17 => (p_nm (i := 2))) (fun sign18 s17 => (j_ifsP (al := []) (b_test (v_P (v_opp ((o_inSS true) _ _) (v_s (E := eS) (a := sign18) (i := 2) rfl) (v_c (E := eS) (a := ("0123456789" : Str)) rfl)))) (j_assoc (j_retL (v_c (E := eB) (a := false) rfl))) (j_skip (j_endL (Sb.same (Sb.same (Sb.drop Sb.nil)))))))) (fun s17 => (j_retT (v_op o_le (v_1p (o_intT _) (v_s (E := eS) (a := z6) (i := 1) rfl)) (v_opp (o_powL pow_10_18) (vN 10) (vN 18)))))))))))
theorem c_l_is_number {ρ : KEnv} {fs : DL.Env → Res (List D)} {x0 : Str} (h : EvR ρ fs (.ok x0) (q1 eS)) : EvR ρ (eCall F_l_is_number fs) (t_l_is_number x0) eB := v_callp (t := fun a : Str => t_l_is_number a) (a := x0) r_l_is_number h
theorem m_l_is_number {ρ : KEnv} {fs : DL.Env → Res (List D)} {r : Res (Str)} (h : EvR ρ fs r (q1 eS)) : EvR ρ (eCall F_l_is_number fs) (r.bind fun a => t_l_is_number a) eB := v_call (t := fun a : Str => t_l_is_number a) r_l_is_number h
noncomputable def t_l_due (text : Str) : Res Int :=
  if text = ("" : Str) then
  Res.ok (0 : Int)
else
  (splitR text ("
" : Str)).bind fun rows3 =>
  (((getL rows3 (0 : Int)).bind fun a4 => splitR a4 (" " : Str)).bind fun a6 => .ok ((a6.length : Nat) : Int)).bind fun wide7 =>
  thenX ((rng1 ((rows3.length : Nat) : Int)).bind fun l15 => forX l15 () (fun k9 s8 =>
  ((getL rows3 k9).bind fun a10 => splitR a10 (" " : Str)).bind fun words12 =>
  if (((4 : Int) < ((words12.length : Nat) : Int)) ∨ ((((words12.length : Nat) : Int) ≠ wide7) ∨ ((39 : Int) < k9))) then
  Res.ok (.rt (k9 + (1 : Int)))
else
  (((compR words12 (fun word_here13 => (t_l_is_number word_here13))).bind fun a14 => .ok (a14.all fun b => b)).bind fun z => .ok (!z)).bind fun z => if z = true then
  Res.ok (.rt (k9 + (1 : Int)))
else
  Res.ok (.nx ())) : Res (Oc Unit Int)) (fun v => v) fun s8 =>
  Res.ok (0 : Int)
theorem r_l_due : CallR F_l_due (q1 eS) (fun (a : Str) => t_l_due a) eI := by
  rintro text _ ⟨d0, rfl, h0⟩
  refine r_def (n := 1) (m := 6) (k := 5) (ρ := ([some (sh eS text)] : KEnv)) (LeA.cons h0 LeA.nil) rfl ?_
  exact (j_ifsP (al := []) (b_test (v_opp (o_eqS _ _) (v_s (E := eS) (a := text) (i := 0) rfl) (v_c (E := eS) (a := ("" : Str)) rfl))) (j_assoc (j_retT (vN 0))) (j_skip (j_do (d_set (al := []) (v_split (v_s (E := eS) (a := text) (i := 0) rfl) (v_c (E := eS) (a := ("
" : Str)) rfl))) (fun rows3 => (j_do (d_set (al := []) (v_1 o_lenL (v_split (v_opp (o_ixL _ _) (v_s (E := (eL eS)) (a := rows3) (i := 1) rfl) (vN 0)) (v_c (E := eS) (a := (" " : Str)) rfl)))) (fun wide7 => (j_xT (d_forX (E' := eI) (al := []) (ρs := fun (s8 : Unit) => ([some (sh eS text), some (sh (eL eS) rows3), some (sh eI wide7), none, none, none] : KEnv)) (ρb := fun k9 (s8 : Unit) => ([some (sh eS text), some (sh (eL eS) rows3), some (sh eI wide7), some (sh eI k9), none, none] : KEnv)) (v_rng1p (v_1p (o_lenL _) (v_s (E := (eL eS)) (a := rows3) (i := 1) rfl))) (Sb.same (Sb.same (Sb.same (Sb.drop (Sb.drop (Sb.drop Sb.nil)))))) (fun k9 s8 => (p_nm (i := 3))) (fun k9 s8 => (j_do (d_set (al := []) (v_split (v_opp (o_ixAL _ _) (v_s (E := (eL eS)) (a := rows3) (i := 1) rfl) (v_s (E := eI) (a := k9) (i := 3) rfl)) (v_c (E := eS) (a := (" " : Str)) rfl))) (fun words12 => (j_ifsP (al := []) (b_orP (b_test (v_opp (o_gt _ _) (v_1p (o_lenL _) (v_s (E := (eL eS)) (a := words12) (i := 4) rfl)) (vN 4))) (b_orP (b_test (v_opp ((o_ne (EqE.int _)) _ _) (v_1p (o_lenL _) (v_s (E := (eL eS)) (a := words12) (i := 4) rfl)) (v_s (E := eI) (a := wide7) (i := 2) rfl))) (b_test (v_opp (o_gt _ _) (v_s (E := eI) (a := k9) (i := 3) rfl) (vN 39))))) (j_assoc (j_retL (v_opp (o_add _ _) (v_s (E := eI) (a := k9) (i := 3) rfl) (vN 1)))) (j_skip (j_ifs (al := []) (b_not (b_truB (v_1 o_all (v_compP (ρb := fun word_here13 => ([some (sh eS text), some (sh (eL eS) rows3), some (sh eI wide7), some (sh eI k9), some (sh (eL eS) words12), some (sh eS word_here13)] : KEnv)) (v_seqL (v_s (E := (eL eS)) (a := words12) (i := 4) rfl)) (fun word_here13 => (p_nm (i := 5))) (fun word_here13 => (c_l_is_number (vq_1 (v_s (E := eS) (a := word_here13) (i := 5) rfl)))))))) (j_assoc (j_retL (v_opp (o_add _ _) (v_s (E := eI) (a := k9) (i := 3) rfl) (vN 1)))) (j_skip (j_endL (Sb.same (Sb.same (Sb.same (Sb.drop (Sb.drop (Sb.drop Sb.nil))))))))))))))) (fun s8 => (j_retT (vN 0))))))))))
theorem c_l_due {ρ : KEnv} {fs : DL.Env → Res (List D)} {x0 : Str} (h : EvR ρ fs (.ok x0) (q1 eS)) : EvR ρ (eCall F_l_due fs) (t_l_due x0) eI := v_callp (t := fun a : Str => t_l_due a) (a := x0) r_l_due h
theorem m_l_due {ρ : KEnv} {fs : DL.Env → Res (List D)} {r : Res (Str)} (h : EvR ρ fs r (q1 eS)) : EvR ρ (eCall F_l_due fs) (r.bind fun a => t_l_due a) eI := v_call (t := fun a : Str => t_l_due a) r_l_due h
noncomputable def t_law (script : (List Int)) : Res Bool :=
  thenX ((rng1 ((script.length : Nat) : Int)).bind fun l10 => forX l10 () (fun k2 s1 =>
  ((getL script k2).bind fun a5 => t_l_made a5 k2).bind fun text7 =>
  ((t_l_row_told text7).bind fun a8 => (t_l_due text7).bind fun b9 => .ok (decide (a8 ≠ b9))).bind fun z => if z = true then
  Res.ok (.rt false)
else
  Res.ok (.nx ())) : Res (Oc Unit Bool)) (fun v => v) fun s1 =>
  (((t_l_row_told ("
" : Str)).bind fun a11 => .ok (decide (a11 = (1 : Int)))).bind fun z => if z = true then ((t_l_row_told ("" : Str)).bind fun a13 => .ok (decide (a13 = (0 : Int)))) else .ok false)
theorem r_law : CallR F_law (q1 (eL eI)) (fun (a : (List Int)) => t_law a) eB := by
  rintro script _ ⟨d0, rfl, h0⟩
  refine r_def (n := 1) (m := 3) (k := 2) (ρ := ([some (sh (eL eI) script)] : KEnv)) (LeA.cons h0 LeA.nil) rfl ?_
  exact (j_xT (d_forX (E' := eB) (al := []) (ρs := fun (s1 : Unit) => ([some (sh (eL eI) script), none, none] : KEnv)) (ρb := fun k2 (s1 : Unit) => ([some (sh (eL eI) script), some (sh eI k2), none] : KEnv)) (v_rng1p (v_1p (o_lenL _) (v_s (E := (eL eI)) (a := script) (i := 0) rfl))) (Sb.same (Sb.drop (Sb.drop Sb.nil))) (fun k2 s1 => (p_nm (i := 1))) (fun k2 s1 => (j_do (d_set (al := []) (v_eqr (r := ((getL script k2).bind fun a3 => .ok (a3, k2)).bind fun a => t_l_made a.1 a.2) (m_l_made (vq_c (v_opp (o_ixAL _ _) (v_s (E := (eL eI)) (a := script) (i := 0) rfl) (v_s (E := eI) (a := k2) (i := 1) rfl)) (vq_1 (v_s (E := eI) (a := k2) (i := 1) rfl)))) (by first | (simp only [Res.assoc, Res.bind_ok]; done) | (simp only [Res.assoc, Res.bind_ok]; rfl)))) (fun text7 => (j_ifs (al := []) (b_test (v_op (o_ne (EqE.int _)) (c_l_row_told (vq_1 (v_s (E := eS) (a := text7) (i := 2) rfl))) (c_l_due (vq_1 (v_s (E := eS) (a := text7) (i := 2) rfl))))) (j_assoc (j_retL (v_c (E := eB) (a := false) rfl))) (j_skip (j_endL (Sb.same (Sb.drop (Sb.drop Sb.nil)))))))))) (fun s1 => (j_retT (v_and (v_op (o_eq (EqE.int _)) (c_l_row_told (vq_1 (v_c (E := eS) (a := ("
" : Str)) rfl))) (vN 1)) (v_op (o_eq (EqE.int _)) (c_l_row_told (vq_1 (v_c (E := eS) (a := ("" : Str)) rfl))) (vN 0))))))
theorem c_law {ρ : KEnv} {fs : DL.Env → Res (List D)} {x0 : (List Int)} (h : EvR ρ fs (.ok x0) (q1 (eL eI))) : EvR ρ (eCall F_law fs) (t_law x0) eB := v_callp (t := fun a : (List Int) => t_law a) (a := x0) r_law h
theorem m_law {ρ : KEnv} {fs : DL.Env → Res (List D)} {r : Res ((List Int))} (h : EvR ρ fs r (q1 (eL eI))) : EvR ρ (eCall F_law fs) (r.bind fun a => t_law a) eB := v_call (t := fun a : (List Int) => t_law a) r_law h
/-! ### texts of numbers -/
def tx (i : Int) : Str := Str.ofString (toString i)
theorem log_of {n : Nat} {i : Int} (h : Sm n i) (hn : n ≤ 1919) : i.natAbs.log2 < 1920 := by
  have h : i.natAbs < 2 ^ n := h
  by_cases z : i.natAbs = 0
  · rw [z]; decide
  · have := (Nat.log2_lt z).mpr (Nat.lt_of_lt_of_le h (Nat.pow_le_pow_right (by decide) hn))
    omega
theorem strR_sm {n : Nat} {i : Int} (h : Sm n i) (hn : n ≤ 1919) : strR i = .ok (tx i) := strR_ok (log_of h hn)
theorem tx_len {n : Nat} {i : Int} (h : Sm n i) (hn : n ≤ 1919) : (tx i).length ≤ 1921 := int_text_len_1921 (log_of h hn)
theorem sl_app (a b : Str) : (a ++ b).length = a.length + b.length := by
  show (Array.size (a.cps ++ b.cps)) = _
  rw [Array.size_append]; rfl
theorem str_ext {a b : Str} (h : a.cps = b.cps) : a = b := by cases a; cases b; cases h; rfl
theorem empty_app (a : Str) : Str.empty ++ a = a := str_ext (show (#[] : Array Nat) ++ a.cps = a.cps by simp)
theorem s_assoc (a b c : Str) : a ++ b ++ c = a ++ (b ++ c) := str_ext (show a.cps ++ b.cps ++ c.cps = a.cps ++ (b.cps ++ c.cps) by simp)
theorem catS_ok2 {a b : Str} (h : a.length + b.length ≤ 10000000) : catS a b = .ok (a ++ b) := if_pos (by rw [PySem.sizeLine_eq]; omega)
theorem join_len (x : Str) : ∀ ys : List Str, (Txt.join x ys).length ≤ (ys.map (·.length)).sum + ys.length * x.length := by
  intro ys
  rw [TL.join_eq]
  induction ys with
  | nil => exact Nat.zero_le _
  | cons y ys ih =>
    cases ys with
    | nil => show y.length ≤ _; simp
    | cons z ys =>
      show (y ++ x ++ Str.join x (z :: ys)).length ≤ _
      rw [sl_app, sl_app, List.map_cons, List.sum_cons, List.length_cons, Nat.succ_mul]
      omega
theorem sum_len {B : Nat} : ∀ {ys : List Str}, (∀ y ∈ ys, y.length ≤ B) → (ys.map (·.length)).sum ≤ ys.length * B
  | [], _ => by simp
  | y :: ys, h => by
    have := sum_len (ys := ys) fun z hz => h z (List.mem_cons_of_mem _ hz)
    have := h y List.mem_cons_self
    rw [List.map_cons, List.sum_cons, List.length_cons, Nat.succ_mul]
    omega
theorem joinR_b {x : Str} {ys : List Str} {B : Nat} (hx : x.length ≤ 1) (h : ∀ y ∈ ys, y.length ≤ B) (hs : ys.length * (B + 1) ≤ 10000000) : joinR x ys = .ok (Txt.join x ys) ∧ (Txt.join x ys).length ≤ ys.length * (B + 1) := by
  have a := sum_len h
  have b := join_len x ys
  have c : ys.length * x.length ≤ ys.length * 1 := Nat.mul_le_mul_left _ hx
  rw [Nat.mul_one] at c
  have d : ys.length * (B + 1) = ys.length * B + ys.length := Nat.mul_succ _ _
  exact ⟨joinR_ok (by omega), by omega⟩
theorem put_mem {α β : Type} [DecidableEq α] {m : List (α × β)} {k : α} {x : β} {p : α × β} (h : p ∈ putG m k x) : p = (k, x) ∨ p ∈ m := by
  unfold putG at h
  split at h
  · obtain ⟨q, hq, e⟩ := List.mem_map.mp h
    by_cases c : q.1 = k
    · rw [if_pos c] at e
      exact .inl (by rw [← e, c])
    · rw [if_neg c] at e
      exact .inr (e ▸ hq)
  · rcases List.mem_append.mp h with h | h
    · exact .inr h
    · exact .inl (List.mem_singleton.mp h)
theorem mem_of_get {α β : Type} [DecidableEq α] {m : List (α × β)} {k : α} {v : β} (h : getG m k = some v) : (k, v) ∈ m := by
  unfold getG at h
  obtain ⟨p, e, hv⟩ := Option.map_eq_some_iff.mp h
  have h1 := List.find?_some e
  have h2 := List.mem_of_find?_eq_some e
  have : p.1 = k := of_decide_eq_true h1
  obtain ⟨a, b⟩ := p
  dsimp only at this hv
  subst this hv
  exact h2
/-! ### words that are numbers -/
theorem fold_id {α β γ : Type} : ∀ (l : List α) (b : β × γ), List.foldl (fun (b : β × γ) (_ : α) => (b.fst, b.snd)) b l = b
  | [], _ => rfl
  | _ :: l, b => fold_id l b
theorem occ_none {s k : Str} (lo hi limit : Nat) (h : ∀ i, Builtin.Str.subAt s k i = false) : Builtin.Str.occurrences s k lo hi limit = [] := by
  unfold Builtin.Str.occurrences
  simp [h, fold_id]
theorem strIn_no {s k : Str} (h : ∀ i, Builtin.Str.subAt s k i = false) : strIn k s = false := by
  unfold strIn
  rw [occ_none _ _ _ h]; rfl
theorem sub_one {s : Str} {c i : Nat} (h : c ∉ s.cps.toList) : Builtin.Str.subAt s ⟨#[c]⟩ i = false := by
  unfold Builtin.Str.subAt
  refine Bool.eq_false_iff.mpr fun z => h ?_
  have e := eq_of_beq z
  have : c ∈ (s.cps.extract i (i + (⟨#[c]⟩ : Str).length)) := by rw [e]; simp
  rw [Array.mem_toList_iff]
  obtain ⟨k, hk, e⟩ := Array.mem_extract_iff_getElem.mp this
  exact e ▸ Array.getElem_mem _
theorem fig_cps : ("0123456789" : Str).cps.toList = [48, 49, 50, 51, 52, 53, 54, 55, 56, 57] := by decide +kernel
theorem fig_back {c : Nat} (h : strIn (⟨#[c]⟩ : Str) ("0123456789" : Str) = true) : 48 ≤ c ∧ c ≤ 57 := by
  by_cases q : c ∈ ("0123456789" : Str).cps.toList
  · rw [fig_cps] at q
    simp only [List.mem_cons, List.not_mem_nil, or_false] at q
    omega
  · rw [strIn_no fun i => sub_one q] at h; cases h
theorem len_tl (x : Str) : x.length = x.cps.toList.length := by show x.cps.size = _; simp
theorem cutSR_b {x : Str} {lo hi : Option Int} (h : x.length ≤ 10000000) : cutSR x lo hi = .ok (cutS x lo hi) := if_pos (by rw [PySem.sizeLine_eq]; omega)
theorem lenS_b {x : Str} (h : x.length ≤ 10000000) : lenS x = .ok (x.length : Int) := if_pos (by rw [PySem.sizeLine_eq]; omega)
theorem cutS_le (x : Str) (lo hi : Option Int) : (cutS x lo hi).length ≤ x.length := by
  rw [len_tl, len_tl]
  unfold cutS
  simp only [List.length_take, List.length_drop]
  omega
/-- the number that a word writes -/
noncomputable def fld (w : Str) : Option Int := match t_field_in w with | .ok v => v | _ => none
theorem walk_signs {R : Type} (v : R) : ∀ (cs : List Nat), DL.forX (cs.map fun c => (⟨#[c]⟩ : Str)) () (fun sign _ => if (strIn sign ("0123456789" : Str) != true) = true then Res.ok (Oc.rt v) else Res.ok (.nx ())) =
    .ok (if (∀ c ∈ cs, strIn (⟨#[c]⟩ : Str) ("0123456789" : Str) = true) then Oc.nx () else .rt v)
  | [] => by rw [if_pos (fun c h => by cases h)]; rfl
  | c :: cs => by
    rw [List.map_cons]
    unfold DL.forX
    dsimp only
    by_cases h : strIn (⟨#[c]⟩ : Str) ("0123456789" : Str) = true
    · rw [if_neg (by rw [h]; decide), Res.bind_ok]
      dsimp only
      rw [walk_signs v cs]
      congr 1
      by_cases q : ∀ c ∈ cs, strIn (⟨#[c]⟩ : Str) ("0123456789" : Str) = true
      · rw [if_pos q, if_pos (fun x hx => (List.mem_cons.mp hx).elim (fun e => e ▸ h) (q x))]
      · rw [if_neg q, if_neg fun z => q fun x hx => z x (List.mem_cons_of_mem _ hx)]
    · rw [if_pos (by rw [Bool.eq_false_iff.mpr h]; rfl), Res.bind_ok, if_neg fun z => h (z c List.mem_cons_self)]
/-! ### texts taken apart at one sign -/
theorem spl_sum (s : Nat) : ∀ (l acc : List Nat), ((TL.spl [s] 0 acc l).map (fun p => p.length + 1)).sum = acc.length + l.length + 1 ∧ TL.spl [s] 0 acc l ≠ []
  | [], acc => by
    rw [TL.spl_nil]
    exact ⟨by simp, by simp⟩
  | c :: l, acc => by
    cases h : TL.pre [s] (c :: l) with
    | true =>
      rw [TL.spl_hit h]
      obtain ⟨a, b⟩ := spl_sum s l []
      refine ⟨?_, by simp⟩
      have a' : ((TL.spl [s] ([s].length - 1) [] l).map (fun p => p.length + 1)).sum = 0 + l.length + 1 := a
      rw [List.map_cons, List.sum_cons, a', List.length_cons]
      omega
    | false =>
      rw [TL.spl_miss h]
      obtain ⟨a, b⟩ := spl_sum s l (acc ++ [c])
      refine ⟨?_, b⟩
      rw [a, List.length_append, List.length_cons, List.length_cons, List.length_nil]
      omega
/-- how much a list of texts takes -/
def wsum (ws : List Str) : Nat := (ws.map fun p => p.length + 1).sum
theorem wsum_nil : wsum [] = 0 := rfl
theorem wsum_cons (w : Str) (ws : List Str) : wsum (w :: ws) = w.length + 1 + wsum ws := by unfold wsum; rw [List.map_cons, List.sum_cons]
theorem wsum_app (a b : List Str) : wsum (a ++ b) = wsum a + wsum b := by unfold wsum; rw [List.map_append, List.sum_append]
theorem wsum_len : ∀ ws : List Str, ws.length ≤ wsum ws
  | [] => Nat.le_refl _
  | w :: ws => by rw [wsum_cons, List.length_cons]; have := wsum_len ws; omega
theorem wsum_mem : ∀ {ws : List Str} {w : Str}, w ∈ ws → w.length + 1 ≤ wsum ws
  | v :: ws, w, h => by
    rw [wsum_cons]
    rcases List.mem_cons.mp h with rfl | h
    · omega
    · have := wsum_mem h; omega
theorem wsum_split {x y : Str} {s : Nat} (hy : TL.tl y = [s]) (hk : y.cps.all (· < 256) = true) : wsum (Txt.split x y) = x.length + 1 ∧ Txt.split x y ≠ [] := by
  have e := TL.split_spl x y (by rw [hy]; simp) (TL.kind_ok hk)
  rw [hy] at e
  obtain ⟨a, b⟩ := spl_sum s (TL.tl x) []
  rw [← e, List.map_map] at a
  refine ⟨?_, fun z => b (by rw [← e, z]; rfl)⟩
  unfold wsum
  rw [TL.len_tl x]
  have : ((fun p : List Nat => p.length + 1) ∘ TL.tl) = fun p : Str => p.length + 1 := funext fun p => by show (TL.tl p).length + 1 = _; rw [TL.len_tl p]
  rw [this] at a
  rw [a]
  simp
theorem wsum_plain : ∀ ws : List Str, (ws.map (·.length)).sum + ws.length = wsum ws
  | [] => rfl
  | w :: ws => by
    have := wsum_plain ws
    rw [wsum_cons, List.map_cons, List.sum_cons, List.length_cons]
    omega
theorem wsum_join {x : Str} {ws : List Str} (hx : x.length ≤ 1) (h : wsum ws ≤ 10000000) : joinR x ws = .ok (Txt.join x ws) ∧ (Txt.join x ws).length ≤ wsum ws := by
  have a := wsum_plain ws
  have b : ws.length * x.length ≤ ws.length * 1 := Nat.mul_le_mul_left _ hx
  have c := join_len x ws
  exact ⟨joinR_ok (by omega), by omega⟩
theorem wsum_set : ∀ {ws : List Str} {i : Nat} {w v : Str}, ws[i]? = some v → wsum (ws.set i w) + v.length = wsum ws + w.length
  | u :: ws, 0, w, v, h => by cases h; rw [List.set_cons_zero, wsum_cons, wsum_cons]; omega
  | u :: ws, i + 1, w, v, h => by
    have := wsum_set (ws := ws) (i := i) (w := w) (v := v) (by simpa using h)
    rw [List.set_cons_succ, wsum_cons, wsum_cons]; omega
theorem wsum_erase : ∀ (ws : List Str) (i : Nat), wsum (ws.eraseIdx i) ≤ wsum ws
  | [], _ => by simp
  | u :: ws, 0 => by rw [List.eraseIdx_cons_zero, wsum_cons]; omega
  | u :: ws, i + 1 => by
    have := wsum_erase ws i
    rw [List.eraseIdx_cons_succ, wsum_cons, wsum_cons]; omega
theorem sep_sp : TL.tl (" " : Str) = [32] ∧ TL.tl ("\n" : Str) = [10] := by decide +kernel
theorem sep_ok : ((" " : Str).length == 0) = false ∧ (("\n" : Str).length == 0) = false ∧ (" " : Str).length ≤ 1 ∧ ("\n" : Str).length ≤ 1 ∧ (" " : Str).cps.all (· < 256) = true ∧ ("\n" : Str).cps.all (· < 256) = true := by decide +kernel
theorem split_sp (x : Str) : wsum (Txt.split x (" " : Str)) = x.length + 1 ∧ Txt.split x (" " : Str) ≠ [] := wsum_split sep_sp.1 sep_ok.2.2.2.2.1
theorem split_nl (x : Str) : wsum (Txt.split x ("\n" : Str)) = x.length + 1 ∧ Txt.split x ("\n" : Str) ≠ [] := wsum_split sep_sp.2 sep_ok.2.2.2.2.2
theorem wsum_le {B : Nat} : ∀ {ws : List Str}, (∀ w ∈ ws, w.length ≤ B) → wsum ws ≤ ws.length * (B + 1)
  | [], _ => Nat.zero_le _
  | w :: ws, h => by
    have a := wsum_le (ws := ws) fun y hy => h y (List.mem_cons_of_mem _ hy)
    have b := h w List.mem_cons_self
    rw [wsum_cons, List.length_cons, Nat.succ_mul]
    omega
theorem a2_all {α β : Type} {P : β → Prop} : ∀ {l : List α} {bs : List β}, A2 (fun _ b => P b) l bs → ∀ b ∈ bs, P b
  | [], bs, h, b, hb => by rw [show bs = [] from h] at hb; cases hb
  | a :: l, _, ⟨c, r, e, h1, h2⟩, b, hb => by
    rw [e] at hb
    rcases List.mem_cons.mp hb with rfl | hb
    · exact h1
    · exact a2_all h2 b hb
theorem putLR_nat {α : Type} {l : List α} {i : Nat} {v : α} (h : i < l.length) : putLR l (i : Int) v = .ok (l.set i v) := by
  have e : ixN l.length (i : Int) = some i := by simp [ixN]; omega
  unfold putLR
  rw [e]
theorem insR_b {α : Type} {l : List α} {i : Int} {a : α} (h0 : 0 ≤ i) (h1 : i < 1000000) (h2 : l.length ≤ 1000000) : insR l i a = .ok (l.take i.toNat ++ [a] ++ l.drop i.toNat) := if_pos ⟨h0, h1, by rw [PySem.sizeLine_eq]; omega⟩
/-! ### k84 -/
theorem field_two {w : Str} (hl : w.length ≤ 1000000) : t_field_in w = .ok (fld w) ∧ t_l_is_number w = .ok (fld w).isSome := by
  suffices h : ∃ v, t_field_in w = .ok v ∧ t_l_is_number w = .ok v.isSome by
    obtain ⟨v, h1, h2⟩ := h
    have : fld w = v := by unfold fld; rw [h1]
    rw [this]; exact ⟨h1, h2⟩
  obtain ⟨z, ez, zl⟩ : ∃ z : Str, (((cutSR w none (some (1 : Int))).bind fun a4 => .ok (decide (a4 = ("-" : Str)))).bind fun z => if z = true then (cutSR w (some (1 : Int)) none).bind fun figures10 =>
      Res.ok figures10 else Res.ok w : Res (Str)) = .ok z ∧ z.length ≤ 1000000 := by
    rw [cutSR_b (by omega), cutSR_b (by omega)]
    simp only [Res.bind_ok]
    split
    · exact ⟨_, rfl, Nat.le_trans (cutS_le _ _ _) hl⟩
    · exact ⟨_, rfl, hl⟩
  unfold t_field_in t_l_is_number
  rw [ez]
  simp only [Res.bind_ok]
  rw [lenS_b (by omega)]
  simp only [Res.bind_ok]
  by_cases c1 : (z.length : Int) < 1
  · rw [decide_eq_true c1]
    simp only [if_true, Res.bind_ok]
    exact ⟨none, rfl, rfl⟩
  rw [decide_eq_false c1]
  simp only [Bool.false_eq_true, if_false, Res.bind_ok]
  by_cases c2 : (19 : Int) < (z.length : Int)
  · rw [decide_eq_true c2]
    simp only [if_true, Res.bind_ok]
    exact ⟨none, rfl, rfl⟩
  rw [decide_eq_false c2]
  simp only [Bool.false_eq_true, if_false, Res.bind_ok]
  obtain ⟨c, r, hc⟩ : ∃ c r, z.cps.toList = c :: r := by
    cases hd : z.cps.toList with
    | nil => rw [len_tl, hd] at c1; simp at c1
    | cons c r => exact ⟨c, r, rfl⟩
  have ix : ixS z (0 : Int) = .ok ⟨#[c]⟩ := by
    unfold ixS
    rw [if_pos (by rw [PySem.sizeLine_eq]; omega), hc]
    simp [atI, ixN]
  rw [ix]
  simp only [Res.bind_ok]
  generalize hlead : (if decide ((⟨#[c]⟩ : Str) = ("0" : Str)) = true then (Res.ok (decide (w ≠ ("0" : Str))) : Res Bool) else .ok false) = lead
  obtain ⟨b, rfl⟩ : ∃ b, lead = .ok b := by rw [← hlead]; split <;> exact ⟨_, rfl⟩
  simp only [Res.bind_ok]
  have sg : signsT z = z.cps.toList.map fun c => (⟨#[c]⟩ : Str) := rfl
  rw [sg]
  have w1 := walk_signs (R := Option Int) none z.cps.toList
  have w2 := walk_signs (R := Bool) false z.cps.toList
  by_cases q : ∀ c ∈ z.cps.toList, strIn (⟨#[c]⟩ : Str) ("0123456789" : Str) = true
  · rw [if_pos q] at w1 w2
    have e1 : ∀ (T : Type) (m : Option Int → T) (k : Unit → Res T), DL.thenX (DL.forX (z.cps.toList.map fun c => (⟨#[c]⟩ : Str)) () (fun sign16 s15 => if (strIn sign16 ("0123456789" : Str) != true) = true then Res.ok (.rt (none : Option Int)) else Res.ok (.nx ()))) m k = k () := fun T m k => by rw [w1]; rfl
    have e2 : ∀ (T : Type) (m : Bool → T) (k : Unit → Res T), DL.thenX (DL.forX (z.cps.toList.map fun c => (⟨#[c]⟩ : Str)) () (fun sign18 s17 => if (strIn sign18 ("0123456789" : Str) != true) = true then Res.ok (.rt false) else Res.ok (.nx ()))) m k = k () := fun T m k => by rw [w2]; rfl
    rw [e1, e2]
    cases b with
    | true => simp only [if_true]; exact ⟨none, rfl, rfl⟩
    | false =>
      simp only [Bool.false_eq_true, if_false]
      have it := intText_digits (x := z) (fun c hc => fig_back (q c hc)) (by rw [hc]; simp) (by omega)
      rw [intTR_ok it (by omega)]
      simp only [Res.bind_ok]
      generalize ((NumText.digitsVal z.cps.toList : Nat) : Int) = n
      by_cases big : (1000000000000000000 : Int) < n
      · rw [if_pos big]
        exact ⟨none, rfl, by rw [decide_eq_false (by omega)]; rfl⟩
      · rw [if_neg big, decide_eq_true (show n ≤ 10 ^ 18 by omega), cutSR_b (by omega), Res.bind_ok, Res.bind_ok]
        split
        · exact ⟨_, rfl, rfl⟩
        · exact ⟨_, rfl, rfl⟩
  · rw [if_neg q] at w1 w2
    have e1 : ∀ (k : Unit → Res (Option Int)), DL.thenX (DL.forX (z.cps.toList.map fun c => (⟨#[c]⟩ : Str)) () (fun sign16 s15 => if (strIn sign16 ("0123456789" : Str) != true) = true then Res.ok (.rt (none : Option Int)) else Res.ok (.nx ()))) (fun v => v) k = .ok none := fun k => by rw [w1]; rfl
    have e2 : ∀ (k : Unit → Res Bool), DL.thenX (DL.forX (z.cps.toList.map fun c => (⟨#[c]⟩ : Str)) () (fun sign18 s17 => if (strIn sign18 ("0123456789" : Str) != true) = true then Res.ok (.rt false) else Res.ok (.nx ()))) (fun v => v) k = .ok false := fun k => by rw [w2]; rfl
    rw [e1, e2]
    cases b with
    | true => simp only [if_true]; exact ⟨none, rfl, rfl⟩
    | false => simp only [Bool.false_eq_true, if_false]; exact ⟨none, rfl, rfl⟩
/-! rows -/

noncomputable def rowOf (ws : List Str) : Option (List Int) := match ws.mapM fld with
  | some l => if 4 < l.length then none else some l
  | none => none
theorem mapM_len : ∀ {ws : List Str} {l : List Int}, ws.mapM fld = some l → l.length = ws.length
  | [], l, h => by simp at h; rw [h]; rfl
  | w :: ws, l, h => by
    simp only [List.mapM_cons, Option.bind_eq_bind, Option.bind_eq_some_iff, Option.pure_def, Option.some.injEq] at h
    obtain ⟨a, h1, b, h2, rfl⟩ := h
    rw [List.length_cons, List.length_cons, mapM_len h2]
theorem mapM_all : ∀ (ws : List Str), (ws.mapM fld).isSome = ws.all fun w => (fld w).isSome
  | [] => by simp
  | w :: ws => by
    have ih := mapM_all ws
    rw [List.mapM_cons, List.all_cons, ← ih]
    cases fld w with
    | none => rfl
    | some a =>
      cases ws.mapM fld with
      | none => rfl
      | some b => rfl
theorem rowin_eq {x : Str} (hl : x.length ≤ 1000000) : t_row_in x = .ok (rowOf (Txt.split x (" " : Str))) := by
  obtain ⟨ws, hws⟩ : ∃ ws, Txt.split x (" " : Str) = ws := ⟨_, rfl⟩
  have sum := (split_sp x).1
  rw [hws] at sum
  unfold t_row_in
  rw [splitR_ok sep_ok.1 (by omega), Res.bind_ok, hws]
  have loop : ∀ (R : List Str) (acc : List Int), (∀ w ∈ R, w.length ≤ 1000000) → acc.length + R.length ≤ 1000002 → DL.forX R acc (fun word4 s3 =>
      (t_field_in word4).bind fun n5 =>
      if n5 = none then
      Res.ok (.rt (none : Option (List Int)))
      else
      ((optR n5).bind fun a7 => appR s3 a7).bind fun row6 =>
      Res.ok (.nx row6)) = .ok (match R.mapM fld with | some l => .nx (acc ++ l) | none => .rt none) := by
    intro R
    induction R with
    | nil => intro acc _ _; simp; rfl
    | cons w R ih =>
      intro acc h hl
      rw [List.length_cons] at hl
      unfold DL.forX
      dsimp only
      rw [(field_two (h w List.mem_cons_self)).1, Res.bind_ok, List.mapM_cons]
      cases hf : fld w with
      | none => rw [if_pos rfl]; rfl
      | some n =>
        rw [if_neg (by simp), show optR (some n) = .ok n from rfl, Res.bind_ok, appR_ok (by omega), Res.bind_ok, Res.bind_ok]
        dsimp only
        rw [ih _ (fun y hy => h y (List.mem_cons_of_mem _ hy)) (by rw [List.length_append, List.length_singleton]; omega)]
        cases R.mapM fld with
        | none => rfl
        | some l => simp
  rw [loop ws [] (fun w hw => by have := wsum_mem hw; omega) (by have := wsum_len ws; simp; omega)]
  unfold rowOf
  cases ws.mapM fld with
  | none => rfl
  | some l =>
    rw [thenX_nx, List.nil_append]
    dsimp only
    by_cases c : 4 < l.length
    · rw [if_pos (by omega), if_pos c]
    · rw [if_neg (by omega), if_neg c]
/-- a line that is as told -/
noncomputable def okW (k wide : Nat) (ws : List Str) : Bool := decide (ws.length ≤ 4) && decide (ws.length = wide) && decide (k ≤ 39) && ws.all fun w => (fld w).isSome
noncomputable def firstBad : Nat → Nat → List Str → Option Nat
  | _, _, [] => none
  | k, wide, x :: R => if okW k wide (Txt.split x (" " : Str)) = true then firstBad (k + 1) wide R else some k
theorem line_is {k wide : Nat} {ws : List Str} (h : k = 0 → wide = ws.length) : (okW k wide ws = true → ∃ l, rowOf ws = some l ∧ l.length = wide ∧ k ≤ 39) ∧
    (okW k wide ws = false → rowOf ws = none ∨ 40 ≤ k ∨ ∃ l, rowOf ws = some l ∧ 0 < k ∧ l.length ≠ wide) := by
  have al := mapM_all ws
  have ln := @mapM_len ws
  unfold okW rowOf
  cases hm : ws.mapM fld with
  | none =>
    rw [hm] at al
    rw [← al]
    exact ⟨fun z => by simp at z, fun _ => .inl rfl⟩
  | some l =>
    rw [hm] at al
    rw [← al]
    have := ln hm
    refine ⟨fun z => ?_, fun z => ?_⟩
    · simp only [Bool.and_eq_true, decide_eq_true_eq] at z
      obtain ⟨⟨⟨z1, z2⟩, z3⟩, _⟩ := z
      exact ⟨l, by dsimp only; rw [if_neg (by omega)], by omega, z3⟩
    · dsimp only
      by_cases c4 : 4 < l.length
      · rw [if_pos c4]; exact .inl rfl
      · rw [if_neg c4]
        by_cases ck : 40 ≤ k
        · exact .inr (.inl ck)
        · refine .inr (.inr ⟨l, rfl, ?_⟩)
          have z' : ¬ ws.length = wide := fun e => by
            rw [decide_eq_true (show ws.length ≤ 4 by omega), decide_eq_true e, decide_eq_true (show k ≤ 39 by omega)] at z
            cases z
          by_cases k0 : k = 0
          · exact absurd (h k0).symm z'
          · exact ⟨by omega, by omega⟩
theorem table_ok {L : List (List Int)} (h : L.length ≤ 40) : t_table_of L = .ok (sortK L) := by
  unfold t_table_of
  rw [if_neg (by omega), sortKR_ok (by omega)]
/-- the program's walk over the lines -/
theorem prog_walk {wide : Nat} : ∀ (R : List Str) (k : Nat) (acc : List (List Int)), (∀ x ∈ R, x.length ≤ 1000000) → acc.length = k → k + R.length ≤ 1000002 → (∀ r ∈ acc, r.length = wide) → (k = 0 → ∀ x r, R = x :: r → wide = (Txt.split x (" " : Str)).length) →
    ∃ l, DL.forR (enumL k R) acc (fun z4 s3 =>
      (t_row_in z4.2).bind fun row5 =>
      (if row5 = none then .ok true else (if (40 : Int) ≤ z4.1 then .ok true else (if (0 : Int) < z4.1 then (((optR row5).bind fun a6 => .ok ((a6.length : Nat) : Int)).bind fun a8 => ((getL s3 (0 : Int)).bind fun a7 => .ok ((a7.length : Nat) : Int)).bind fun b9 => .ok (decide (a8 ≠ b9))) else .ok false))).bind fun z => if z = true then
      (Res.ok (("no row of this table" : Str), (D.int (z4.1 + (1 : Int))))).bind fun v => Res.exc "BadText" [(D.str "row", v.2)]
      else
      ((optR row5).bind fun a11 => appR s3 a11).bind fun rows10 =>
      Res.ok rows10) = (match firstBad k wide R with | some j => Res.exc "BadText" [(D.str "row", D.int ((j : Int) + 1))] | none => .ok l) ∧ (firstBad k wide R = none → l.length = k + R.length ∧ (R ≠ [] → k + R.length ≤ 40)) := by
  intro R
  induction R with
  | nil => intro k acc _ ha _ _ _; exact ⟨acc, rfl, fun _ => ⟨by simpa using ha, fun z => absurd rfl z⟩⟩
  | cons x R ih =>
    intro k acc hx ha hl hw h0
    rw [List.length_cons] at hl
    unfold enumL DL.forR
    dsimp only
    rw [rowin_eq (hx x List.mem_cons_self), Res.bind_ok]
    obtain ⟨y1, y2⟩ := line_is (k := k) (wide := wide) (ws := Txt.split x (" " : Str)) (fun e => h0 e x R rfl)
    unfold firstBad
    cases hok : okW k wide (Txt.split x (" " : Str)) with
    | true =>
      obtain ⟨l, e, el, ek⟩ := y1 hok
      rw [e, if_neg (by simp), if_neg (by omega), show optR (some l) = .ok l from rfl]
      have q : (if (0 : Int) < ((k : Nat) : Int) then (((Res.ok l : Res (List Int)).bind fun a6 => .ok ((a6.length : Nat) : Int)).bind fun a8 => ((getL acc (0 : Int)).bind fun a7 => .ok ((a7.length : Nat) : Int)).bind fun b9 => .ok (decide (a8 ≠ b9))) else .ok false) = .ok false := by
        by_cases c : (0 : Int) < ((k : Nat) : Int)
        · obtain ⟨z, Z, rfl⟩ : ∃ z Z, acc = z :: Z := by
            cases acc with
            | nil => simp at ha; omega
            | cons z Z => exact ⟨z, Z, rfl⟩
          have g : getL (z :: Z) (0 : Int) = .ok z := getL_nat (i := 0) rfl
          rw [if_pos c, g]
          simp only [Res.bind_ok]
          rw [el, hw z List.mem_cons_self]
          simp
        · rw [if_neg c]
      rw [q, Res.bind_ok, if_neg (by decide), Res.bind_ok, appR_ok (by omega), Res.bind_ok, Res.bind_ok, if_pos rfl]
      obtain ⟨l', e1, e2⟩ := ih (k + 1) (acc ++ [l]) (fun y hy => hx y (List.mem_cons_of_mem _ hy)) (by rw [List.length_append, List.length_singleton, ha]) (by omega) (fun r hr => by
        rcases List.mem_append.mp hr with hr | hr
        · exact hw r hr
        · rw [List.mem_singleton.mp hr]; exact el) (fun z => by omega)
      refine ⟨l', e1, fun z => ?_⟩
      obtain ⟨e3, e4⟩ := e2 z
      refine ⟨by rw [e3, List.length_cons]; omega, fun _ => ?_⟩
      rw [List.length_cons]
      by_cases hR : R = []
      · subst hR; simp; omega
      · have := e4 hR; omega
    | false =>
      rw [if_neg Bool.false_ne_true]
      refine ⟨[], ?_, fun z => by cases z⟩
      dsimp only
      have t : ∀ (b : Res Bool), b = .ok true → (b.bind fun z => if z = true then (Res.ok (("no row of this table" : Str), (D.int ((k : Int) + (1 : Int))))).bind fun v => Res.exc "BadText" [(D.str "row", v.2)] else ((optR (rowOf (Txt.split x (" " : Str)))).bind fun a11 => appR acc a11).bind fun rows10 => Res.ok rows10).bind (fun s => DL.forR (enumL (k + 1) R) s (fun z4 s3 =>
          (t_row_in z4.2).bind fun row5 =>
          (if row5 = none then .ok true else (if (40 : Int) ≤ z4.1 then .ok true else (if (0 : Int) < z4.1 then (((optR row5).bind fun a6 => .ok ((a6.length : Nat) : Int)).bind fun a8 => ((getL s3 (0 : Int)).bind fun a7 => .ok ((a7.length : Nat) : Int)).bind fun b9 => .ok (decide (a8 ≠ b9))) else .ok false))).bind fun z => if z = true then
          (Res.ok (("no row of this table" : Str), (D.int (z4.1 + (1 : Int))))).bind fun v => Res.exc "BadText" [(D.str "row", v.2)]
          else
          ((optR row5).bind fun a11 => appR s3 a11).bind fun rows10 =>
          Res.ok rows10)) = Res.exc "BadText" [(D.str "row", D.int ((k : Int) + 1))] := fun b hb => by subst hb; rfl
      refine t _ ?_
      rcases y2 hok with e | e | ⟨l, e, e1, e2⟩
      · rw [e, if_pos rfl]
      · by_cases hn : rowOf (Txt.split x (" " : Str)) = none
        · rw [if_pos hn]
        · rw [if_neg hn, if_pos (by omega)]
      · rw [e, if_neg (by simp)]
        by_cases ck : (40 : Int) ≤ (k : Int)
        · rw [if_pos ck]
        · rw [if_neg ck, if_pos (by omega)]
          obtain ⟨z, Z, rfl⟩ : ∃ z Z, acc = z :: Z := by
            cases acc with
            | nil => simp at ha; omega
            | cons z Z => exact ⟨z, Z, rfl⟩
          have g : getL (z :: Z) (0 : Int) = .ok z := getL_nat (i := 0) rfl
          rw [g]
          show (Res.ok _ : Res Bool) = .ok true
          rw [hw z List.mem_cons_self]
          congr 1
          exact decide_eq_true (by omega)
/-- the law's -/
theorem law_walk {lines : List Str} {wide : Nat} : ∀ (R done : List Str), lines = done ++ R → (∀ x ∈ lines, x.length ≤ 1000000) →
    DL.forX ((List.range' done.length R.length).map fun (i : Nat) => (i : Int)) () (fun k9 s8 =>
      ((getL lines k9).bind fun a10 => splitR a10 (" " : Str)).bind fun words12 =>
      if (((4 : Int) < ((words12.length : Nat) : Int)) ∨ ((((words12.length : Nat) : Int) ≠ (wide : Int)) ∨ ((39 : Int) < k9))) then
      Res.ok (.rt (k9 + (1 : Int)))
      else
      (((compR words12 (fun word_here13 => (t_l_is_number word_here13))).bind fun a14 => .ok (a14.all fun b => b)).bind fun z => .ok (!z)).bind fun z => if z = true then
      Res.ok (.rt (k9 + (1 : Int)))
      else
      Res.ok (.nx ())) = .ok (match firstBad done.length wide R with | some j => Oc.rt ((j : Int) + 1) | none => .nx ()) := by
  intro R
  induction R with
  | nil => intro done _ _; rfl
  | cons x R ih =>
    intro done e hx
    have hxl := hx x (by rw [e]; simp)
    rw [List.length_cons, List.range'_succ, List.map_cons]
    unfold DL.forX firstBad
    dsimp only
    have g : getL lines ((done.length : Nat) : Int) = .ok x := getL_nat (by rw [e]; simp)
    rw [g, Res.bind_ok, splitR_ok sep_ok.1 (by omega), Res.bind_ok]
    have sum := (split_sp x).1
    generalize hws : Txt.split x (" " : Str) = ws at *
    have hc : compR ws (fun w => t_l_is_number w) = .ok (ws.map fun w => (fld w).isSome) := compR_fn (by have := wsum_len ws; omega) fun w hw => (field_two (by have := wsum_mem hw; omega)).2
    rw [hc]
    have ih' := ih (done ++ [x]) (by rw [e, List.append_assoc]; rfl) hx
    rw [List.length_append, List.length_singleton] at ih'
    unfold okW
    by_cases c : ((4 : Int) < ((ws.length : Nat) : Int)) ∨ ((((ws.length : Nat) : Int) ≠ (wide : Int)) ∨ ((39 : Int) < ((done.length : Nat) : Int)))
    · rw [if_pos c]
      have : (decide (ws.length ≤ 4) && decide (ws.length = wide) && decide (done.length ≤ 39) && ws.all fun w => (fld w).isSome) = false := by
        rcases c with c | c | c
        · rw [decide_eq_false (show ¬ ws.length ≤ 4 by omega)]; rfl
        · rw [decide_eq_false (show ¬ ws.length = wide by omega), Bool.and_false]; rfl
        · rw [decide_eq_false (show ¬ done.length ≤ 39 by omega), Bool.and_false]; rfl
      rw [this, if_neg Bool.false_ne_true]
      rfl
    · rw [if_neg c, decide_eq_true (show ws.length ≤ 4 by omega), decide_eq_true (show ws.length = wide by omega), decide_eq_true (show done.length ≤ 39 by omega)]
      simp only [Res.bind_ok, Bool.true_and, List.all_map]
      have ea : (ws.all ((fun b => b) ∘ fun w => (fld w).isSome)) = ws.all fun w => (fld w).isSome := rfl
      rw [ea]
      cases hall : ws.all fun w => (fld w).isSome with
      | true => simp only [Bool.not_true, Bool.false_eq_true, if_false, if_true]; exact ih'
      | false => simp only [Bool.not_false, if_true]; rfl
theorem told_due {T : Str} (hl : T.length ≤ 900000) : ∃ n, t_l_row_told T = .ok n ∧ t_l_due T = .ok n := by
  by_cases he : T = ("" : Str)
  · subst he
    refine ⟨0, ?_, by unfold t_l_due; rw [if_pos rfl]⟩
    unfold t_l_row_told t_table_read
    rw [if_pos rfl, table_ok (by decide), splitR_ok sep_ok.2.1 (by decide +kernel)]
    have e : decide (("" : Str) ≠ ("" : Str)) = false := by simp
    simp only [Res.bind_ok, e, ite_self, Bool.false_eq_true, if_false]
    rfl
  · obtain ⟨lines, hli⟩ : ∃ lines, Txt.split T ("\n" : Str) = lines := ⟨_, rfl⟩
    obtain ⟨sum, ne⟩ := split_nl T
    rw [hli] at sum ne
    have hx : ∀ x ∈ lines, x.length ≤ 1000000 := fun x h => by have := wsum_mem h; omega
    have hn := wsum_len lines
    obtain ⟨x, R, hxR⟩ : ∃ x R, lines = x :: R := by
      cases lines with
      | nil => exact absurd rfl ne
      | cons x R => exact ⟨x, R, rfl⟩
    obtain ⟨l, e1, e2⟩ := prog_walk (wide := (Txt.split x (" " : Str)).length) lines 0 [] hx rfl (by omega) (fun r h => by cases h) (fun _ y r e => by rw [hxR] at e; cases e; rfl)
    have e3 := law_walk (lines := lines) (wide := (Txt.split x (" " : Str)).length) lines [] rfl hx
    have g0 : getL lines (0 : Int) = .ok x := getL_nat (i := 0) (by rw [hxR]; rfl)
    have hxl := hx x (by rw [hxR]; exact List.mem_cons_self)
    have due : t_l_due T = .ok (match firstBad 0 (Txt.split x (" " : Str)).length lines with | some j => (j : Int) + 1 | none => 0) := by
      unfold t_l_due
      rw [if_neg he, splitR_ok sep_ok.2.1 (by omega), Res.bind_ok, hli, g0, Res.bind_ok, splitR_ok sep_ok.1 (by omega), Res.bind_ok, Res.bind_ok, rng1_ok (by omega) (by omega), Res.bind_ok, rangeI_nat, List.range_eq_range']
      rw [show (List.range' 0 lines.length) = List.range' ([] : List Str).length lines.length from rfl, e3]
      cases firstBad ([] : List Str).length (Txt.split x (" " : Str)).length lines with
      | none => rfl
      | some j => rfl
    refine ⟨_, ?_, due⟩
    unfold t_l_row_told t_table_read
    rw [if_neg he, splitR_ok sep_ok.2.1 (by omega), Res.bind_ok, Res.bind_ok, Res.bind_ok, hli, e1]
    cases hb : firstBad 0 (Txt.split x (" " : Str)).length lines with
    | none =>
      obtain ⟨l1, l2⟩ := e2 hb
      have l3 := l2 ne
      dsimp only
      rw [Res.bind_ok, table_ok (by omega), Res.bind_ok, Res.bind_ok, Res.bind_ok, sortK_len, l1]
      have e : decide (((0 + lines.length : Nat) : Int) ≠ (lines.length : Int)) = false := by simp
      rw [e]
      rfl
    | some j => rfl
/-! sizes -/
theorem mix_ok {cell k : Int} (h0 : -10000 ≤ k) (h1 : k ≤ 10000) : Ok (t_l_mix cell k) fun _ => True := by
  unfold t_l_mix
  have a0 := Int.emod_nonneg cell (b := 10 ^ 30) (by decide)
  have a1 := Int.emod_lt_of_pos cell (b := 10 ^ 30) (by decide)
  have sa : Sm 100 (cell % 10 ^ 30) := Sm.abs (by omega) (by omega)
  have kk : -100000000 ≤ k * k ∧ k * k ≤ 100000000 := by
    have : k.natAbs ≤ 10000 := by omega
    have h2 : k.natAbs * k.natAbs ≤ 10000 * 10000 := Nat.mul_le_mul this this
    have h3 := Int.natAbs_mul_self (a := k)
    omega
  obtain ⟨kk0, kk1⟩ := kk
  rw [modR_pos (by decide), Res.bind_ok, mulR_ok sa (Sm.lit 64 (by decide)) (by decide), Res.bind_ok, mulR_s (by omega) (by omega) (by omega) (by omega), Res.bind_ok, Res.bind_ok, Res.bind_ok, mulR_r (n := 64) (Sm.lit 64 (by decide)) (by decide) (by omega) (by omega), Res.bind_ok, Res.bind_ok, Res.bind_ok]
  generalize cell % 10 ^ 30 * 1000000000000000003 + (k * k + k + 1) * 1442695040888963407 = z
  have b0 := Int.emod_nonneg z (b := 2305843009213693951) (by decide)
  have b1 := Int.emod_lt_of_pos z (b := 2305843009213693951) (by decide)
  have sb : Sm 62 (z % 2305843009213693951) := Sm.abs (by omega) (by omega)
  rw [mulR_ok sb sb (by decide), Res.bind_ok]
  exact ⟨_, rfl, trivial⟩
theorem tx_b {i : Int} (h : -(10 ^ 19) ≤ i) (k : i ≤ 10 ^ 19) : Ok (strR i) fun x => x.length ≤ 1921 :=
  have s : Sm 100 i := Sm.abs (by omega) (by omega)
  ⟨_, strR_sm s (by decide), tx_len s (by decide)⟩
theorem times_b {a : Str} {k : Int} (h2 : 2 ≤ k) (h3 : k ≤ 1000) (h4 : a.length = 1) : Ok (timesR a k) fun x => x.length ≤ 1000 :=
  ⟨_, if_pos ⟨h2, h3, by omega, by omega⟩, by show (timesS a k.toNat).length ≤ 1000; rw [timesS_len, h4]; omega⟩
theorem word_ok {n : Int} : Ok (t_l_word n) fun w => w.length ≤ 2000 := by
  unfold t_l_word
  refine Ok.bind (P := fun l => l.length = 14 ∧ ∀ w ∈ l, w.length ≤ 2000) ?_ fun l ⟨ll, hl⟩ => ?_
  · obtain ⟨a, ea, ha⟩ := tx_b (i := (10 ^ 18 : Int) + 1) (by decide) (by decide)
    rw [ea]
    simp only [Res.bind_ok]
    refine ⟨_, rfl, rfl, fun w hw => ?_⟩
    simp only [List.mem_cons, List.not_mem_nil, or_false] at hw
    rcases hw with rfl | rfl | rfl | rfl | rfl | rfl | rfl | rfl | rfl | rfl | rfl | rfl | rfl | rfl <;> first | (exact Nat.le_trans ha (by decide)) | decide +kernel
  · refine Ok.bind (P := fun m => m.length = 21 ∧ ∀ w ∈ m, w.length ≤ 2000) ?_ fun m ⟨ml, hm⟩ => ?_
    · obtain ⟨a, ea, ha⟩ := tx_b (i := (-(10 ^ 18 : Int)) - 1) (by decide) (by decide)
      obtain ⟨b, eb, hb⟩ := times_b (a := ("9" : Str)) (k := 19) (by decide) (by decide) (by decide +kernel)
      obtain ⟨c, ec, hc⟩ := times_b (a := ("0" : Str)) (k := 19) (by decide) (by decide) (by decide +kernel)
      obtain ⟨d, ed, hd⟩ := times_b (a := ("7" : Str)) (k := 300) (by decide) (by decide) (by decide +kernel)
      obtain ⟨e, ee, he⟩ := tx_b (i := (10 ^ 18 : Int)) (by decide) (by decide)
      obtain ⟨f, ef, hf⟩ := tx_b (i := (-(10 ^ 18 : Int))) (by decide) (by decide)
      have l1 : ("1" : Str).length = 1 := by decide +kernel
      rw [ea, eb, ec, ed, ee, ef]
      simp only [Res.bind_ok]
      rw [catS_ok2 (by omega)]
      simp only [Res.bind_ok]
      refine Ok.catR (by rw [ll]; simp) ⟨by rw [List.length_append, ll]; rfl, fun w hw => ?_⟩
      rcases List.mem_append.mp hw with hw | hw
      · exact hl w hw
      · simp only [List.mem_cons, List.not_mem_nil, or_false] at hw
        rcases hw with rfl | rfl | rfl | rfl | rfl | rfl | rfl
        · omega
        · omega
        · rw [sl_app]; omega
        · omega
        · omega
        · omega
        · decide +kernel
    · rw [modR_pos (by rw [ml]; decide), Res.bind_ok]
      have h1 := Int.emod_nonneg n (b := ((m.length : Nat) : Int)) (by rw [ml]; decide)
      have h2 := Int.emod_lt_of_pos n (b := ((m.length : Nat) : Int)) (by rw [ml]; decide)
      exact Ok.getL (by omega) h2 hm
theorem spoil_ok {row : Str} {n : Int} (hr : row.length ≤ 100000) : Ok (t_l_spoiled row n) fun x => x.length ≤ row.length + 3000 := by
  unfold t_l_spoiled
  rw [splitR_ok sep_ok.1 (by omega), Res.bind_ok]
  obtain ⟨s0, ne⟩ := split_sp row
  generalize Txt.split row (" " : Str) = ws at *
  have l0 := wsum_len ws
  have p0 : 0 < ws.length := List.length_pos_iff.mpr ne
  rw [modR_pos (by omega), Res.bind_ok]
  have at0 := Int.emod_nonneg (n / 8) (b := ((ws.length : Nat) : Int)) (by omega)
  have at1 := Int.emod_lt_of_pos (n / 8) (b := ((ws.length : Nat) : Int)) (by omega)
  generalize n / 8 % ((ws.length : Nat) : Int) = a at at0 at1
  obtain ⟨i, rfl⟩ := Int.eq_ofNat_of_zero_le at0
  have hi : i < ws.length := by omega
  have put : ∀ {l : List Str} {v : Str}, l.length = ws.length → wsum l = wsum ws → ∃ l', putLR l (i : Int) v = .ok l' ∧ wsum l' ≤ row.length + 1 + v.length := fun {l v} h1 h2 => by
    have hi' : i < l.length := by omega
    have := wsum_set (ws := l) (i := i) (w := v) (v := l[i]) (List.getElem?_eq_getElem hi')
    exact ⟨_, putLR_nat hi', by omega⟩
  refine Ok.bind (P := fun z => (z = ws ∨ n % 8 < 1) ∧ wsum z ≤ row.length + 2500) (Ok.ite (fun c => ?_) fun c => ⟨_, rfl, .inl rfl, by omega⟩) fun z ⟨hz, bz⟩ => ?_
  · obtain ⟨v, ev, hv⟩ := word_ok (n := n / 64)
    obtain ⟨l', e', h'⟩ := put (v := v) rfl rfl
    rw [ev, Res.bind_ok, e', Res.bind_ok]
    exact ⟨_, rfl, .inr (by omega), by omega⟩
  refine Ok.bind (P := fun z => (z = ws ∨ n % 8 < 2) ∧ wsum z ≤ row.length + 2500) (Ok.ite (fun c => ?_) fun c => ⟨_, rfl, hz.imp id fun h => by omega, bz⟩) fun z ⟨hz, bz⟩ => ?_
  · obtain rfl := hz.resolve_right (by omega)
    obtain ⟨v, ev, hv⟩ := word_ok (n := n / 64)
    rw [ev]
    simp only [Res.bind_ok]
    rw [insR_b (by omega) (by omega) (by omega), Res.bind_ok]
    refine ⟨_, rfl, .inr (by omega), ?_⟩
    have := wsum_app (z.take i) (z.drop i)
    rw [List.take_append_drop] at this
    rw [show ((i : Nat) : Int).toNat = i from rfl, wsum_app, wsum_app, wsum_cons, wsum_nil]
    omega
  refine Ok.bind (P := fun z => (z = ws ∨ n % 8 < 3) ∧ wsum z ≤ row.length + 2500) (Ok.ite (fun c => ?_) fun c => ⟨_, rfl, hz.imp id fun h => by omega, bz⟩) fun z ⟨hz, bz⟩ => ?_
  · obtain rfl := hz.resolve_right (by omega)
    rw [Res.bind_ok, popR_ok (by omega) (by omega) (by omega), Res.bind_ok]
    have := wsum_erase z ((i : Nat) : Int).toNat
    exact ⟨_, rfl, .inr (by omega), by omega⟩
  refine Ok.bind (P := fun z => (z = ws ∨ n % 8 < 4) ∧ wsum z ≤ row.length + 2500) (Ok.ite (fun c => ?_) fun c => ⟨_, rfl, hz.imp id fun h => by omega, bz⟩) fun z ⟨hz, bz⟩ => ?_
  · obtain rfl := hz.resolve_right (by omega)
    rw [catR_ok (by simp; omega), Res.bind_ok]
    refine ⟨_, rfl, .inr (by omega), ?_⟩
    have : ("" : Str).length = 0 := by decide +kernel
    rw [wsum_app, wsum_cons, wsum_nil]
    omega
  refine Ok.bind (P := fun z => (z = ws ∨ n % 8 < 5) ∧ wsum z ≤ row.length + 2500) (Ok.ite (fun c => ?_) fun c => ⟨_, rfl, hz.imp id fun h => by omega, bz⟩) fun z ⟨hz, bz⟩ => ?_
  · obtain rfl := hz.resolve_right (by omega)
    rw [appR_ok (by omega), Res.bind_ok]
    refine ⟨_, rfl, .inr (by omega), ?_⟩
    have : ("" : Str).length = 0 := by decide +kernel
    rw [wsum_app, wsum_cons, wsum_nil]
    omega
  refine Ok.bind (P := fun z => (z = ws ∨ n % 8 < 6) ∧ wsum z ≤ row.length + 2500) (Ok.ite (fun c => ?_) fun c => ⟨_, rfl, hz.imp id fun h => by omega, bz⟩) fun z ⟨hz, bz⟩ => ?_
  · obtain rfl := hz.resolve_right (by omega)
    have : ("" : Str).length = 0 := by decide +kernel
    simp only [Res.bind_ok]
    rw [insR_b (by omega) (by omega) (by omega), Res.bind_ok]
    refine ⟨_, rfl, .inr (by omega), ?_⟩
    have := wsum_app (z.take i) (z.drop i)
    rw [List.take_append_drop] at this
    rw [show ((i : Nat) : Int).toNat = i from rfl, wsum_app, wsum_app, wsum_cons, wsum_nil]
    omega
  refine Ok.bind (P := fun z => (z = ws ∨ n % 8 < 7) ∧ wsum z ≤ row.length + 2500) (Ok.ite (fun c => ?_) fun c => ⟨_, rfl, hz.imp id fun h => by omega, bz⟩) fun z ⟨hz, bz⟩ => ?_
  · exact ⟨_, rfl, .inr (by omega), Nat.le_trans (show wsum [("1" : Str), ("2" : Str), ("3" : Str), ("4" : Str), ("5" : Str)] ≤ 2500 by decide +kernel) (by omega)⟩
  refine Ok.bind (P := fun z => wsum z ≤ row.length + 2500) (Ok.ite (fun c => ?_) fun c => ⟨_, rfl, bz⟩) fun z bz => ?_
  · obtain rfl := hz.resolve_right (by omega)
    obtain ⟨sg, es, hs⟩ := Ok.getL (l := [("'" : Str), ("_" : Str), ("+" : Str), ("a" : Str)]) (i := n / 64 % 4) (P := fun x => x.length ≤ 1) (by simp; omega) (by simp; omega) (by decide +kernel)
    have g : getL z (i : Int) = .ok z[i] := getL_nat (List.getElem?_eq_getElem hi)
    have m := wsum_mem (List.getElem_mem hi)
    have := wsum_set (ws := z) (i := i) (w := z[i] ++ sg) (v := z[i]) (List.getElem?_eq_getElem hi)
    rw [sl_app] at this
    rw [es, Res.bind_ok, g, Res.bind_ok, catS_ok2 (by omega), Res.bind_ok, putLR_nat hi, Res.bind_ok]
    exact ⟨_, rfl, by omega⟩
  obtain ⟨e, h⟩ := wsum_join (x := (" " : Str)) (ws := z) sep_ok.2.2.1 (by omega)
  exact ⟨_, e, by omega⟩
theorem made_ok {cell k : Int} (h0 : 0 ≤ k) (h1 : k ≤ 63) : Ok (t_l_made cell k) fun T => T.length ≤ 900000 := by
  unfold t_l_made
  obtain ⟨n, en, _⟩ := mix_ok (cell := cell) (k := k) (by omega) (by omega)
  rw [en, Res.bind_ok, Res.bind_ok, Res.bind_ok]
  refine Ok.bind (P := fun m : Int => 1 ≤ m ∧ m ≤ 43) (Ok.ite (fun c => ⟨_, rfl, by omega, by omega⟩) fun c => ⟨_, rfl, by omega, by omega⟩) fun m ⟨m1, m2⟩ => ?_
  obtain ⟨M, rfl⟩ := Int.eq_ofNat_of_zero_le (show 0 ≤ m by omega)
  refine Ok.bind (P := fun rows : List Str => rows.length = M ∧ ∀ r ∈ rows, r.length ≤ 8000) ?_ fun rows ⟨r1, r2⟩ => ?_
  · rw [rng1_ok (by omega) (by omega), Res.bind_ok]
    refine Ok.imp (Ok.forR (fun d s => s.length = d.length ∧ ∀ r ∈ s, r.length ≤ 8000) ⟨rfl, fun r h => by cases h⟩ fun d j r s e ⟨i1, i2⟩ => ?_) fun s ⟨i1, i2⟩ => ⟨by rw [i1, rangeI_len]; omega, i2⟩
    have hj : j ∈ rangeI 0 (M : Int) := by rw [e]; simp
    have hj := rangeI_mem.mp hj
    have dl : d.length ≤ 43 := by
      have := congrArg List.length e
      rw [rangeI_len, List.length_append, List.length_cons] at this
      omega
    obtain ⟨ws, ew, hw1, hw2⟩ := Ok.compR (l := rangeI 0 (1 + n % 4)) (f := fun i9 => (((((((mulR (9 : Int) j).bind fun a10 => .ok (a10 + i9)).bind fun a12 => .ok (a12 + k)).bind fun a17 => t_l_mix cell a17).bind fun a18 => .ok (a18 % (30 : Int))).bind fun a19 => .ok (a19 - (9 : Int))).bind fun a21 => (strR a21)))
      (P := fun _ w => w.length ≤ 1921) (Q := fun ws => ws.length ≤ 4 ∧ ∀ w ∈ ws, w.length ≤ 1921) (by rw [rangeI_len]; omega) (fun i hi => by
        have hi := rangeI_mem.mp hi
        rw [mulR_s (by omega) (by omega) (by omega) (by omega), Res.bind_ok, Res.bind_ok, Res.bind_ok]
        obtain ⟨z, ez, _⟩ := mix_ok (cell := cell) (k := 9 * j + i + k) (by omega) (by omega)
        rw [ez, Res.bind_ok, Res.bind_ok, Res.bind_ok]
        exact tx_b (by omega) (by omega)) (fun bs hb => ⟨by rw [hb.length, rangeI_len]; omega, a2_all hb⟩)
    have hs : wsum ws ≤ 8000 := by
      have := wsum_le hw2
      have : ws.length * 1922 ≤ 4 * 1922 := Nat.mul_le_mul_right _ hw1
      omega
    obtain ⟨ej, hj2⟩ := wsum_join (x := (" " : Str)) (ws := ws) sep_ok.2.2.1 (by omega)
    rw [rng1_ok (by omega) (by omega), Res.bind_ok, ew, Res.bind_ok, ej, Res.bind_ok, appR_ok (by omega), Res.bind_ok]
    refine ⟨_, rfl, by rw [List.length_append, List.length_append, i1]; rfl, fun r hr => ?_⟩
    rcases List.mem_append.mp hr with hr | hr
    · exact i2 r hr
    · rw [List.mem_singleton.mp hr]; omega
  refine Ok.bind (P := fun rows : List Str => rows.length = M ∧ ∀ r ∈ rows, r.length ≤ 17000) ?_ fun rows ⟨r1, r2⟩ => ?_
  · rw [rng1_ok (by omega) (by omega), Res.bind_ok]
    refine Ok.imp (Ok.forR (fun d s => s.length = M ∧ ∀ r ∈ s, r.length ≤ 8000 + d.length * 3000) ⟨r1, fun r h => by have := r2 r h; simp; omega⟩ fun d j r s e ⟨i1, i2⟩ => ?_) fun s ⟨i1, i2⟩ => ⟨i1, fun r hr => by have := i2 r hr; rw [rangeI_len] at this; omega⟩
    have hj : j ∈ rangeI 0 (n / 2000 % 3) := by rw [e]; simp
    have hj := rangeI_mem.mp hj
    have dl : d.length ≤ 3 := by
      have := congrArg List.length e
      rw [rangeI_len, List.length_append, List.length_cons] at this
      omega
    obtain ⟨one, eo, _⟩ := mix_ok (cell := cell) (k := 777 + j) (by omega) (by omega)
    rw [eo, Res.bind_ok, modR_pos (by omega), Res.bind_ok]
    have at0 := Int.emod_nonneg one (b := (M : Int)) (by omega)
    have at1 := Int.emod_lt_of_pos one (b := (M : Int)) (by omega)
    generalize one % (M : Int) = a at at0 at1
    obtain ⟨i, rfl⟩ := Int.eq_ofNat_of_zero_le at0
    have hi : i < s.length := by omega
    have g : getL s (i : Int) = .ok s[i] := getL_nat (List.getElem?_eq_getElem hi)
    have hb := i2 s[i] (List.getElem_mem hi)
    obtain ⟨x, ex, hx⟩ := spoil_ok (row := s[i]) (n := one / 64) (by omega)
    rw [g, Res.bind_ok, ex, Res.bind_ok, putLR_nat hi, Res.bind_ok]
    refine ⟨_, rfl, by rw [List.length_set]; exact i1, fun r hr => ?_⟩
    rw [List.length_append, List.length_singleton]
    rcases List.mem_or_eq_of_mem_set hr with hr | rfl
    · have := i2 r hr; omega
    · omega
  have hs : wsum rows ≤ 800000 := by
    have := wsum_le r2
    have : rows.length * 17001 ≤ 43 * 17001 := Nat.mul_le_mul_right _ (by omega)
    omega
  obtain ⟨ej, hj2⟩ := wsum_join (x := ("\n" : Str)) (ws := rows) sep_ok.2.2.2.1 (by omega)
  obtain ⟨tl, et, ht⟩ := Ok.getL (l := [("" : Str), ("" : Str), ("" : Str), ("" : Str), ("\n" : Str)]) (i := n / 7000 % 5) (P := fun x => x.length ≤ 1) (by simp; omega) (by simp; omega) (by decide +kernel)
  rw [ej, Res.bind_ok, et, Res.bind_ok]
  exact ⟨_, catS_ok2 (by omega), by show (_ ++ _ : Str).length ≤ 900000; rw [sl_app]; omega⟩
theorem due_nl : t_l_due ("\n" : Str) = .ok 1 := by
  have sp : Txt.split ("\n" : Str) ("\n" : Str) = [("" : Str), ("" : Str)] := by decide +kernel
  have sp2 : Txt.split ("" : Str) (" " : Str) = [("" : Str)] := by decide +kernel
  have f0 : t_l_is_number ("" : Str) = .ok false := by
    unfold t_l_is_number
    have c0 : cutS ("" : Str) none (some (1 : Int)) = ("" : Str) := by decide +kernel
    have l0 : ("" : Str).length = 0 := by decide +kernel
    have n0 : decide (("" : Str) = ("-" : Str)) = false := by decide +kernel
    rw [cutSR_b (by omega), Res.bind_ok, Res.bind_ok, c0, n0, if_neg (by decide), Res.bind_ok, lenS_b (by omega), l0, Res.bind_ok, Res.bind_ok, if_pos (by decide), Res.bind_ok, if_pos rfl]
  unfold t_l_due
  have g0 : getL [("" : Str), ("" : Str)] (0 : Int) = .ok ("" : Str) := getL_nat (i := 0) rfl
  rw [if_neg (by decide +kernel), splitR_ok sep_ok.2.1 (by decide +kernel), Res.bind_ok, sp, g0, Res.bind_ok, splitR_ok sep_ok.1 (by decide +kernel), Res.bind_ok, sp2, Res.bind_ok, rng1_ok (by decide) (by decide), Res.bind_ok, rangeI_nat]
  show DL.thenX (DL.forX (0 :: _) () _) _ _ = _
  unfold DL.forX
  dsimp only
  rw [g0, Res.bind_ok, splitR_ok sep_ok.1 (by decide +kernel), Res.bind_ok, sp2, if_neg (by decide), compR_fn (g := fun _ => false) (by decide) (fun w hw => by rw [List.mem_singleton.mp hw]; exact f0)]
  rfl
theorem law_typed (s : List Int) (hl : s.length ≤ 63) : t_law s = .ok true := by
  unfold t_law
  rw [rng1_ok (by omega) (by omega), Res.bind_ok, forX_unit, thenX_nx]
  · obtain ⟨n, a, b⟩ := told_due (T := ("\n" : Str)) (by decide +kernel)
    rw [due_nl] at b
    cases b
    obtain ⟨m, a', b'⟩ := told_due (T := ("" : Str)) (by decide +kernel)
    have : t_l_due ("" : Str) = .ok 0 := by unfold t_l_due; rw [if_pos rfl]
    rw [this] at b'
    cases b'
    rw [a, Res.bind_ok, Res.bind_ok, if_pos (by decide), a', Res.bind_ok]
    rfl
  · intro k hk
    have hk := rangeI_mem.mp hk
    obtain ⟨c, ec, _⟩ := Ok.getL (l := s) (i := k) (P := fun _ => True) (by omega) hk.2 fun _ _ => trivial
    obtain ⟨T, eT, hT⟩ := made_ok (cell := c) (k := k) hk.1 (by omega)
    obtain ⟨n, a, b⟩ := told_due (by omega : T.length ≤ 900000)
    rw [ec, Res.bind_ok, eT, Res.bind_ok, a, Res.bind_ok, b, Res.bind_ok, Res.bind_ok, if_neg (by simp)]
theorem law_holds (ns : List Int) (hl : ns.length ≤ 63) (hb : ∀ z ∈ ns, intBits z ≤ 1048576) : F_law [.lst (ns.map D.int)] = .ok (.bl true) := by
  obtain ⟨d, h1, h2⟩ := (r_law ns _ ⟨_, rfl, _, rfl, A2.fn.mpr rfl⟩).get (law_typed ns hl)
  rw [h1, show d = _ from h2]

end DLaw
namespace DLaw
open PySem PySem.Spec PyProof.Rows L2
open DL
abbrev s_BadText_init : Stmt := inClass (top 3) 0
theorem ok_BadText_init {P : Program} {w : World} {K : PySem.W.Frag} {mg : Str → Option Value} {base : Heap} {f B : Addr} {fd : FuncData} (TB : BasE K B) (hB : mg "BlurError" = some (.ref B)) (F : Fun K "__init__" "BadText.__init__" s_BadText_init f fd) : FnOk P w K mg base (L2.CX P w) 1 f fd ["self", "words", "row"] (spI K ["row"]) :=
  F.okX (N := ["self", "words", "row"]) (k := 0) ⟨rfl, rfl, rfl, by decide +kernel, rfl, by decide +kernel, by decide +kernel⟩ (fun vs H Q E h => h.1) fun cdv A outer s H vs Q E hr h => ⟨_, pss_cons (ps_expr (pe_baseini TB rfl hB (pa_cons (pe_var (i := 0) rfl (by first | exact .inl rfl | exact .inr (.inl rfl) | exact .inr (.inr rfl))) (pa_cons (pe_var (i := 1) rfl (by first | exact .inl rfl | exact .inr (.inl rfl) | exact .inr (.inr rfl))) pa_nil)))) (pss_cons (ps_ost (pe_var (i := 0) rfl (by first | exact .inl rfl | exact .inr (.inl rfl) | exact .inr (.inr rfl))) (pe_var (i := 2) rfl (by first | exact .inl rfl | exact .inr (.inl rfl) | exact .inr (.inr rfl)))) pss_nil), ini_one h _ fun _ _ q => q⟩
abbrev N_l_mix : List Str := ["_law_cell", "_law_k", "_law_m"]
theorem sc_l_mix : FnScope N_l_mix ["_law_cell", "_law_k"] (defScope s_l_mix) := ⟨rfl, rfl, rfl, by decide +kernel, rfl, by decide +kernel, by decide +kernel⟩
theorem ok_l_mix {P : Program} {w : World} {K : PySem.W.Frag} {mg : Str → Option Value} {base : Heap} {f : Addr} {fd : FuncData} (T : Txt K mg) (F : Fun K "_law_mix" "_law_mix" s_l_mix f fd)  :
    FnOk P w K mg base (L2.CX P w) 1 f fd ["_law_cell", "_law_k"] (spD K mg 2 F_l_mix) :=
  fnD (N := N_l_mix) (k := 0) (fb := b_l_mix) F sc_l_mix fun cdv A outer s H G E hr tk hp =>
    by exact (dss_cons (ds_set (al := []) (i := 2) sc_l_mix.nd rfl (by first | exact .inl rfl | exact .inr rfl) (de_bin od_mod (dr (de_bin od_add (dr (de_bin od_mul (dr (de_bin od_mod (dr (dv 0)) (dr (de_bin od_pow (dr de_int) (dr de_int))))) (dr de_int))) (dr (de_bin od_mul (dr (de_bin od_add (dr (de_bin od_add (dr (de_bin od_mul (dr (dv 1)) (dr (dv 1)))) (dr (dv 1)))) (dr de_int))) (dr de_int))))) (dr de_int))) (dss_cons (ds_ret (al := []) (de_bin od_mod (dr (de_bin od_mul (dr (dv 2)) (dr (dv 2)))) (dr de_int))) dss_nil))
abbrev N_l_word : List Str := ["_law_n", "_law_some"]
theorem sc_l_word : FnScope N_l_word ["_law_n"] (defScope s_l_word) := ⟨rfl, rfl, rfl, by decide +kernel, rfl, by decide +kernel, by decide +kernel⟩
theorem ok_l_word {P : Program} {w : World} {K : PySem.W.Frag} {mg : Str → Option Value} {base : Heap} {f : Addr} {fd : FuncData} (T : Txt K mg) (F : Fun K "_law_word" "_law_word" s_l_word f fd)  :
    FnOk P w K mg base (L2.CX P w) 1 f fd ["_law_n"] (spD K mg 1 F_l_word) :=
  fnD (N := N_l_word) (k := 0) (fb := b_l_word) F sc_l_word fun cdv A outer s H G E hr tk hp =>
    by exact (dss_cons (ds_set (al := []) (i := 1) sc_l_word.nd rfl (by first | exact .inl rfl | exact .inr rfl) (de_of (df_lst (da_cons de_str (da_cons de_str (da_cons de_str (da_cons de_str (da_cons de_str (da_cons de_str (da_cons de_str (da_cons de_str (da_cons de_str (da_cons de_str (da_cons de_str (da_cons de_str (da_cons de_str (da_cons (de_t1 c1_strI rfl T.z_str rfl (dr (de_bin od_add (dr (de_bin od_pow (dr de_int) (dr de_int))) (dr de_int)))) da_nil)))))))))))))) (len_cons (len_cons (len_cons (len_cons (len_cons (len_cons (len_cons (len_cons (len_cons (len_cons (len_cons (len_cons (len_cons (len_cons len_nil)))))))))))))) (szl (by decide))))) (dss_cons (ds_set (al := []) (i := 1) sc_l_word.nd rfl (by first | exact .inl rfl | exact .inr rfl) (de_bin od_add (dr (dv 1)) (dr (de_of (df_lst (da_cons (de_t1 c1_strI rfl T.z_str rfl (dr (de_bin od_sub (dr (de_neg (de_bin od_pow (dr de_int) (dr de_int)))) (dr de_int)))) (da_cons (de_bin od_mulS (dr de_str) (dr de_int)) (da_cons (de_bin od_add (dr de_str) (dr (de_bin od_mulS (dr de_str) (dr de_int)))) (da_cons (de_bin od_mulS (dr de_str) (dr de_int)) (da_cons (de_t1 c1_strI rfl T.z_str rfl (dr (de_bin od_pow (dr de_int) (dr de_int)))) (da_cons (de_t1 c1_strI rfl T.z_str rfl (dr (de_neg (de_bin od_pow (dr de_int) (dr de_int))))) (da_cons de_str da_nil))))))) (len_cons (len_cons (len_cons (len_cons (len_cons (len_cons (len_cons len_nil))))))) (szl (by decide))))))) (dss_cons (ds_ret (al := []) (de_ixA hr.hu1 (dr (dv 1)) (de_bin od_mod (dr (dv 0)) (dr (de_b1 c1_len rfl T.z_len rfl (dr (dv 1))))) (fun _ _ => rfl) (fun _ _ => rfl))) dss_nil)))
abbrev N_l_spoiled : List Str := ["_law_row", "_law_n", "_law_words", "_law_at", "_law_way", "_law_sign"]
theorem sc_l_spoiled : FnScope N_l_spoiled ["_law_row", "_law_n"] (defScope s_l_spoiled) := ⟨rfl, rfl, rfl, by decide +kernel, rfl, by decide +kernel, by decide +kernel⟩
theorem ok_l_spoiled {P : Program} {w : World} {K : PySem.W.Frag} {mg : Str → Option Value} {base : Heap} {f : Addr} {fd : FuncData} (T : Txt K mg) (F : Fun K "_law_spoiled" "_law_spoiled" s_l_spoiled f fd) (c_l_word : CallOk P w K mg base 1 "_law_word" ["_law_n"] F_l_word) :
    FnOk P w K mg base (L2.CX P w) 2 f fd ["_law_row", "_law_n"] (spD K mg 2 F_l_spoiled) :=
  fnD (N := N_l_spoiled) (k := 1) (fb := b_l_spoiled) F sc_l_spoiled fun cdv A outer s H G E hr tk hp =>
    by have hu := Room.hu hr; exact (dss_cons (ds_setF (al := []) (i := 2) sc_l_spoiled.nd rfl (by first | exact .inl rfl | exact .inr rfl) (df_split (dr (dv 0)) (dr de_str))) (dss_cons (ds_set (al := []) (i := 3) sc_l_spoiled.nd rfl (by first | exact .inl rfl | exact .inr rfl) (de_bin od_mod (dr (de_bin od_div (dr (dv 1)) (dr de_int))) (dr (de_b1 c1_len rfl T.z_len rfl (dr_var (i := 2) rfl (by first | exact .inl rfl | exact .inr (.inl rfl) | exact .inr (.inr rfl))))))) (dss_cons (ds_set (al := []) (i := 4) sc_l_spoiled.nd rfl (by first | exact .inl rfl | exact .inr rfl) (de_bin od_mod (dr (dv 1)) (dr de_int))) (dss_cons (ds_if (al := []) (dt_cmp (od_eq hu) (dr (dv 4)) (dr de_int) (nomark _)) (dss_cons (ds_putL (al := []) (i := 2) rfl (by first | exact .inl rfl | exact .inr (.inl rfl) | exact .inr (.inr rfl)) (dv 3) (de_callE c_l_word hr rfl tk (da_cons (de_bin od_div (dr (dv 1)) (dr de_int)) da_nil) (leq_cons leq_nil))) dss_nil) dss_nil) (dss_cons (ds_if (al := []) (dt_cmp (od_eq hu) (dr (dv 4)) (dr de_int) (nomark _)) (dss_cons (ds_mut (al := []) (i := 2) PySem.F.slot_list_insert PySem.F.type_list_insert mut_insert rfl (by first | exact .inl rfl | exact .inr (.inl rfl) | exact .inr (.inr rfl)) (da_cons (dv 3) (da_cons (de_callE c_l_word hr rfl tk (da_cons (de_bin od_div (dr (dv 1)) (dr de_int)) da_nil) (leq_cons leq_nil)) da_nil))) dss_nil) dss_nil) (dss_cons (ds_if (al := []) (dt_cmp (od_eq hu) (dr (dv 4)) (dr de_int) (nomark _)) (dss_cons (ds_mut (al := []) (i := 2) PySem.F.slot_list_pop PySem.F.type_list_pop mut_pop rfl (by first | exact .inl rfl | exact .inr (.inl rfl) | exact .inr (.inr rfl)) (da_cons (dv 3) da_nil)) dss_nil) dss_nil) (dss_cons (ds_if (al := []) (dt_cmp (od_eq hu) (dr (dv 4)) (dr de_int) (nomark _)) (dss_cons (ds_setF (al := []) (i := 2) sc_l_spoiled.nd rfl (by first | exact .inl rfl | exact .inr rfl) (df_cat (dr (de_of (df_lst (da_cons de_str da_nil) (len_cons len_nil) (szl (by decide))))) (dr_var (i := 2) rfl (by first | exact .inl rfl | exact .inr (.inl rfl) | exact .inr (.inr rfl))))) dss_nil) dss_nil) (dss_cons (ds_if (al := []) (dt_cmp (od_eq hu) (dr (dv 4)) (dr de_int) (nomark _)) (dss_cons (ds_mut (al := []) (i := 2) PySem.F.slot_list_append PySem.F.type_list_append mut_append rfl (by first | exact .inl rfl | exact .inr (.inl rfl) | exact .inr (.inr rfl)) (da_cons de_str da_nil)) dss_nil) dss_nil) (dss_cons (ds_if (al := []) (dt_cmp (od_eq hu) (dr (dv 4)) (dr de_int) (nomark _)) (dss_cons (ds_mut (al := []) (i := 2) PySem.F.slot_list_insert PySem.F.type_list_insert mut_insert rfl (by first | exact .inl rfl | exact .inr (.inl rfl) | exact .inr (.inr rfl)) (da_cons (dv 3) (da_cons de_str da_nil))) dss_nil) dss_nil) (dss_cons (ds_if (al := []) (dt_cmp (od_eq hu) (dr (dv 4)) (dr de_int) (nomark _)) (dss_cons (ds_setF (al := []) (i := 2) sc_l_spoiled.nd rfl (by first | exact .inl rfl | exact .inr rfl) (df_lst (da_cons de_str (da_cons de_str (da_cons de_str (da_cons de_str (da_cons de_str da_nil))))) (len_cons (len_cons (len_cons (len_cons (len_cons len_nil))))) (szl (by decide)))) dss_nil) dss_nil) (dss_cons (ds_if (al := []) (dt_cmp (od_eq hu) (dr (dv 4)) (dr de_int) (nomark _)) (dss_cons (ds_set (al := []) (i := 5) sc_l_spoiled.nd rfl (by first | exact .inl rfl | exact .inr rfl) (de_ixA hr.hu1 (dr (de_of (df_lst (da_cons de_str (da_cons de_str (da_cons de_str (da_cons de_str da_nil)))) (len_cons (len_cons (len_cons (len_cons len_nil)))) (szl (by decide))))) (de_bin od_mod (dr (de_bin od_div (dr (dv 1)) (dr de_int))) (dr de_int)) (fun _ _ => rfl) (fun _ _ => rfl))) (dss_cons (ds_putL (al := []) (i := 2) rfl (by first | exact .inl rfl | exact .inr (.inl rfl) | exact .inr (.inr rfl)) (dv 3) (de_bin od_add (dr (de_ixA hr.hu1 (dr_var (i := 2) rfl (by first | exact .inl rfl | exact .inr (.inl rfl) | exact .inr (.inr rfl))) (dv 3) (fun _ _ => rfl) (fun _ _ => rfl))) (dr (dv 5)))) dss_nil)) dss_nil) (dss_cons (ds_ret (al := []) (de_join (dr de_str) (dr_var (i := 2) rfl (by first | exact .inl rfl | exact .inr (.inl rfl) | exact .inr (.inr rfl))))) dss_nil))))))))))))
abbrev N_l_made : List Str := ["_law_cell", "_law_k", "_law_n", "_law_wide", "_law_many", "_law_rows", "_law_j", "_law_i", "_law_one", "_law_at"]
theorem sc_l_made : FnScope N_l_made ["_law_cell", "_law_k"] (defScope s_l_made) := ⟨rfl, rfl, rfl, by decide +kernel, rfl, by decide +kernel, by decide +kernel⟩
theorem ok_l_made {P : Program} {w : World} {K : PySem.W.Frag} {mg : Str → Option Value} {base : Heap} {f : Addr} {fd : FuncData} (T : Txt K mg) (F : Fun K "_law_made" "_law_made" s_l_made f fd) (c_l_mix : CallOk P w K mg base 2 "_law_mix" ["_law_cell", "_law_k"] F_l_mix) (c_l_spoiled : CallOk P w K mg base 2 "_law_spoiled" ["_law_row", "_law_n"] F_l_spoiled) :
    FnOk P w K mg base (L2.CX P w) 3 f fd ["_law_cell", "_law_k"] (spD K mg 2 F_l_made) :=
  fnD (N := N_l_made) (k := 2) (fb := b_l_made) F sc_l_made fun cdv A outer s H G E hr tk hp =>
    by have hu := Room.hu hr; exact (dss_cons (ds_set (al := []) (i := 2) sc_l_made.nd rfl (by first | exact .inl rfl | exact .inr rfl) (de_callE c_l_mix hr rfl tk (da_cons (dv 0) (da_cons (dv 1) da_nil)) (leq_cons (leq_cons leq_nil)))) (dss_cons (ds_set (al := []) (i := 3) sc_l_made.nd rfl (by first | exact .inl rfl | exact .inr rfl) (de_bin od_add (dr de_int) (dr (de_bin od_mod (dr (dv 2)) (dr de_int))))) (dss_cons (ds_set (al := []) (i := 4) sc_l_made.nd rfl (by first | exact .inl rfl | exact .inr rfl) (de_bin od_add (dr de_int) (dr (de_bin od_mod (dr (de_bin od_div (dr (dv 2)) (dr de_int))) (dr de_int))))) (dss_cons (ds_if (al := []) (dt_cmp (od_eq hu) (dr (de_bin od_mod (dr (de_bin od_div (dr (dv 2)) (dr de_int))) (dr de_int))) (dr de_int) (nomark _)) (dss_cons (ds_set (al := []) (i := 4) sc_l_made.nd rfl (by first | exact .inl rfl | exact .inr rfl) (de_bin od_add (dr de_int) (dr (de_bin od_mod (dr (de_bin od_div (dr (dv 2)) (dr de_int))) (dr de_int))))) dss_nil) dss_nil) (dss_cons (ds_setF (al := []) (i := 5) sc_l_made.nd rfl (by first | exact .inl rfl | exact .inr rfl) (df_lst da_nil len_nil (szl (by decide)))) (dss_cons (ds_for (al := []) hp rfl (di_range1 rfl T.z_range (dv 4)) (dg_name (i := 6) sc_l_made.nd rfl (by first | exact .inl rfl | exact .inr rfl)) (fun _ => (dss_cons (ds_mut (al := []) (i := 5) PySem.F.slot_list_append PySem.F.type_list_append mut_append rfl (by first | exact .inl rfl | exact .inr (.inl rfl) | exact .inr (.inr rfl)) (da_cons (de_join (dr de_str) (dr (de_of (df_comp (own := [("_law_i", 7)]) rfl sc_l_made.nd (dir_of (di_range1 rfl T.z_range (dv 3))) (blkOk_by (N := N_l_made) (sc := defScope s_l_made) (by decide +kernel)) (fun _ _ _ _ _ => (dg_name (i := 7) sc_l_made.nd rfl (by first | exact .inl rfl | exact .inr rfl))) (fun _ _ _ _ _ => dts_nil) (fun _ _ _ _ _ => (de_t1 c1_strI rfl T.z_str rfl (dr (de_bin od_sub (dr (de_bin od_mod (dr (de_callE c_l_mix hr rfl takes0 (da_cons (dv 0) (da_cons (de_bin od_add (dr (de_bin od_add (dr (de_bin od_mul (dr de_int) (dr (dv 6)))) (dr (dv 7)))) (dr (dv 1))) da_nil)) (leq_cons (leq_cons leq_nil)))) (dr de_int))) (dr de_int))))) (by decide))))) da_nil)) dss_nil))) (dss_cons (ds_for (al := []) hp rfl (di_range1 rfl T.z_range (de_bin od_mod (dr (de_bin od_div (dr (dv 2)) (dr de_int))) (dr de_int))) (dg_name (i := 6) sc_l_made.nd rfl (by first | exact .inl rfl | exact .inr rfl)) (fun _ => (dss_cons (ds_set (al := []) (i := 8) sc_l_made.nd rfl (by first | exact .inl rfl | exact .inr rfl) (de_callE c_l_mix hr rfl tk (da_cons (dv 0) (da_cons (de_bin od_add (dr de_int) (dr (dv 6))) da_nil)) (leq_cons (leq_cons leq_nil)))) (dss_cons (ds_set (al := []) (i := 9) sc_l_made.nd rfl (by first | exact .inl rfl | exact .inr rfl) (de_bin od_mod (dr (dv 8)) (dr (dv 4)))) (dss_cons (ds_putL (al := []) (i := 5) rfl (by first | exact .inl rfl | exact .inr (.inl rfl) | exact .inr (.inr rfl)) (dv 9) (de_callE c_l_spoiled hr rfl tk (da_cons (de_ixA hr.hu1 (dr_var (i := 5) rfl (by first | exact .inl rfl | exact .inr (.inl rfl) | exact .inr (.inr rfl))) (dv 9) (fun _ _ => rfl) (fun _ _ => rfl)) (da_cons (de_bin od_div (dr (dv 8)) (dr de_int)) da_nil)) (leq_cons (leq_cons leq_nil)))) dss_nil))))) (dss_cons (ds_ret (al := []) (de_bin od_add (dr (de_join (dr de_str) (dr_var (i := 5) rfl (by first | exact .inl rfl | exact .inr (.inl rfl) | exact .inr (.inr rfl))))) (dr (de_ixA hr.hu1 (dr (de_of (df_lst (da_cons de_str (da_cons de_str (da_cons de_str (da_cons de_str (da_cons de_str da_nil))))) (len_cons (len_cons (len_cons (len_cons (len_cons len_nil))))) (szl (by decide))))) (de_bin od_mod (dr (de_bin od_div (dr (dv 2)) (dr de_int))) (dr de_int)) (fun _ _ => rfl) (fun _ _ => rfl))))) dss_nil))))))))
abbrev N_table_of : List Str := ["rows"]
theorem sc_table_of : FnScope N_table_of ["rows"] (defScope s_table_of) := ⟨rfl, rfl, rfl, by decide +kernel, rfl, by decide +kernel, by decide +kernel⟩
theorem ok_table_of {P : Program} {w : World} {K : PySem.W.Frag} {mg : Str → Option Value} {base : Heap} {f : Addr} {fd : FuncData} (T : Txt K mg) (F : Fun K "table_of" "table_of" s_table_of f fd)  :
    FnOk P w K mg base (L2.CX P w) 1 f fd ["rows"] (spD K mg 1 F_table_of) :=
  fnD (N := N_table_of) (k := 0) (fb := b_table_of) F sc_table_of fun cdv A outer s H G E hr tk hp =>
    by have hu := Room.hu hr; exact (dss_cons (ds_if (al := []) (dt_cmp (od_gt hu) (dr (de_b1 c1_len rfl T.z_len rfl (dr (dv 0)))) (dr (de_con T.c_MOST_ROWS_tables rfl)) (nomark _)) (dss_cons (ds_raise (c := "TooMany") T.x_TooMany rfl tk rfl) dss_nil) dss_nil) (dss_cons (ds_ret (al := []) (de_t1 c1_tuple rfl T.z_tuple rfl (dr (de_of (df_b1 (c1_sorted rfl hu) rfl T.z_sorted rfl (dr (dv 0))))))) dss_nil))
abbrev N_field_in : List Str := ["word", "figures", "sign", "n"]
theorem sc_field_in : FnScope N_field_in ["word"] (defScope s_field_in) := ⟨rfl, rfl, rfl, by decide +kernel, rfl, by decide +kernel, by decide +kernel⟩
theorem ok_field_in {P : Program} {w : World} {K : PySem.W.Frag} {mg : Str → Option Value} {base : Heap} {f : Addr} {fd : FuncData} (T : Txt K mg) (F : Fun K "field_in" "field_in" s_field_in f fd)  :
    FnOk P w K mg base (L2.CX P w) 1 f fd ["word"] (spD K mg 1 F_field_in) :=
  fnD (N := N_field_in) (k := 0) (fb := b_field_in) F sc_field_in fun cdv A outer s H G E hr tk hp =>
    by have hu := Room.hu hr; exact (dss_cons (ds_set (al := []) (i := 1) sc_field_in.nd rfl (by first | exact .inl rfl | exact .inr rfl) (dv 0)) (dss_cons (ds_if (al := []) (dt_cmp (od_eq hu) (dr (de_cut (dr (dv 0)) do_none (do_some de_int))) (dr de_str) (nomark _)) (dss_cons (ds_set (al := []) (i := 1) sc_field_in.nd rfl (by first | exact .inl rfl | exact .inr rfl) (de_cut (dr (dv 0)) (do_some de_int) do_none)) dss_nil) dss_nil) (dss_cons (ds_if (al := []) (dt_w (dw_or (dt_cmp (od_lt hu) (dr (de_b1 c1_len rfl T.z_len rfl (dr (dv 1)))) (dr de_int) (nomark _)) (dw_or1 (dt_cmp (od_gt hu) (dr (de_b1 c1_len rfl T.z_len rfl (dr (dv 1)))) (dr de_int) (nomark _))))) (dss_cons (ds_ret (al := []) de_non) dss_nil) dss_nil) (dss_cons (ds_for (al := []) hp rfl (di_str (dv 1)) (dg_name (i := 2) sc_field_in.nd rfl (by first | exact .inl rfl | exact .inr rfl)) (fun _ => (dss_cons (ds_if (al := []) (dt_notInA hr.hu65 (dv 2) (dr (de_con T.c_FIGURES rfl))) (dss_cons (ds_ret (al := []) de_non) dss_nil) dss_nil) dss_nil))) (dss_cons (ds_if (al := []) (dt_w (dw_and (dt_cmp (od_eq hu) (dr (de_ix (dr (dv 1)) (dr de_int) (fun _ _ => rfl))) (dr de_str) (nomark _)) (dw_and1 (dt_cmp (od_ne hu) (dr (dv 0)) (dr de_str) (nomark _))))) (dss_cons (ds_ret (al := []) de_non) dss_nil) dss_nil) (dss_cons (ds_set (al := []) (i := 3) sc_field_in.nd rfl (by first | exact .inl rfl | exact .inr rfl) (de_t1 c1_intT rfl T.z_int rfl (dr (dv 1)))) (dss_cons (ds_if (al := []) (dt_cmp (od_gt hu) (dr (dv 3)) (dr (de_con T.c_MOST rfl)) (nomark _)) (dss_cons (ds_ret (al := []) de_non) dss_nil) dss_nil) (dss_cons (ds_if (al := []) (dt_cmp (od_eq hu) (dr (de_cut (dr (dv 0)) do_none (do_some de_int))) (dr de_str) (nomark _)) (dss_cons (ds_ret (al := []) (de_neg (dv 3))) dss_nil) dss_nil) (dss_cons (ds_ret (al := []) (dv 3)) dss_nil)))))))))
abbrev N_row_in : List Str := ["text", "row", "word", "n"]
theorem sc_row_in : FnScope N_row_in ["text"] (defScope s_row_in) := ⟨rfl, rfl, rfl, by decide +kernel, rfl, by decide +kernel, by decide +kernel⟩
theorem ok_row_in {P : Program} {w : World} {K : PySem.W.Frag} {mg : Str → Option Value} {base : Heap} {f : Addr} {fd : FuncData} (T : Txt K mg) (F : Fun K "row_in" "row_in" s_row_in f fd) (c_field_in : CallOk P w K mg base 1 "field_in" ["word"] F_field_in) :
    FnOk P w K mg base (L2.CX P w) 2 f fd ["text"] (spD K mg 1 F_row_in) :=
  fnD (N := N_row_in) (k := 1) (fb := b_row_in) F sc_row_in fun cdv A outer s H G E hr tk hp =>
    by have hu := Room.hu hr; exact (dss_cons (ds_setF (al := []) (i := 1) sc_row_in.nd rfl (by first | exact .inl rfl | exact .inr rfl) (df_lst da_nil len_nil (szl (by decide)))) (dss_cons (ds_for (al := []) hp rfl (di_seq (de_of (df_split (dr (dv 0)) (dr de_str)))) (dg_name (i := 2) sc_row_in.nd rfl (by first | exact .inl rfl | exact .inr rfl)) (fun _ => (dss_cons (ds_set (al := []) (i := 3) sc_row_in.nd rfl (by first | exact .inl rfl | exact .inr rfl) (de_callE c_field_in hr rfl tk (da_cons (dv 2) da_nil) (leq_cons leq_nil))) (dss_cons (ds_if (al := []) (dt_cmp od_is (dr (dv 3)) (dr de_non) (nomark _)) (dss_cons (ds_ret (al := []) de_non) dss_nil) dss_nil) (dss_cons (ds_mut (al := []) (i := 1) PySem.F.slot_list_append PySem.F.type_list_append mut_append rfl (by first | exact .inl rfl | exact .inr (.inl rfl) | exact .inr (.inr rfl)) (da_cons (dv 3) da_nil)) dss_nil))))) (dss_cons (ds_if (al := []) (dt_cmp (od_gt hu) (dr (de_b1 c1_len rfl T.z_len rfl (dr_var (i := 1) rfl (by first | exact .inl rfl | exact .inr (.inl rfl) | exact .inr (.inr rfl))))) (dr (de_con T.c_MOST_FIELDS rfl)) (nomark _)) (dss_cons (ds_ret (al := []) de_non) dss_nil) dss_nil) (dss_cons (ds_ret (al := []) (de_t1 c1_tuple rfl T.z_tuple rfl (dr_var (i := 1) rfl (by first | exact .inl rfl | exact .inr (.inl rfl) | exact .inr (.inr rfl))))) dss_nil))))
abbrev N_table_read : List Str := ["text", "rows", "k", "line", "row"]
theorem sc_table_read : FnScope N_table_read ["text"] (defScope s_table_read) := ⟨rfl, rfl, rfl, by decide +kernel, rfl, by decide +kernel, by decide +kernel⟩
theorem ok_table_read {P : Program} {w : World} {K : PySem.W.Frag} {mg : Str → Option Value} {base : Heap} {f : Addr} {fd : FuncData} (T : Txt K mg) (F : Fun K "table_read" "table_read" s_table_read f fd) (x_BadText : FldOk P w K mg base 1 "BadText" ["row"]) (c_table_of : CallOk P w K mg base 2 "table_of" ["rows"] F_table_of) (c_row_in : CallOk P w K mg base 2 "row_in" ["text"] F_row_in) :
    FnOk P w K mg base (L2.CX P w) 3 f fd ["text"] (spD K mg 1 F_table_read) :=
  fnD (N := N_table_read) (k := 2) (fb := b_table_read) F sc_table_read fun cdv A outer s H G E hr tk hp =>
    by have hu := Room.hu hr; exact (dss_cons (ds_setF (al := []) (i := 1) sc_table_read.nd rfl (by first | exact .inl rfl | exact .inr rfl) (df_lst da_nil len_nil (szl (by decide)))) (dss_cons (ds_if (al := []) (dt_cmp (od_eq hu) (dr (dv 0)) (dr de_str) (nomark _)) (dss_cons (ds_ret (al := [1]) (de_callE c_table_of hr rfl tk (da_cons (de_var (i := 1) rfl (by first | exact .inl rfl | exact .inr (.inl rfl) | exact .inr (.inr rfl)) (by decide)) da_nil) (leq_cons leq_nil))) dss_nil) dss_nil) (dss_cons (ds_for (al := []) hp rfl (di_enum rfl T.z_enumerate (de_of (df_split (dr (dv 0)) (dr de_str)))) (dg_tup rfl (dgs_cons (dg_name (i := 2) sc_table_read.nd rfl (by first | exact .inl rfl | exact .inr rfl)) (dgs_cons (dg_name (i := 3) sc_table_read.nd rfl (by first | exact .inl rfl | exact .inr rfl)) dgs_nil)) rfl) (fun _ => (dss_cons (ds_set (al := []) (i := 4) sc_table_read.nd rfl (by first | exact .inl rfl | exact .inr rfl) (de_callE c_row_in hr rfl tk (da_cons (dv 3) da_nil) (leq_cons leq_nil))) (dss_cons (ds_if (al := []) (dt_w (dw_or (dt_cmp od_is (dr (dv 4)) (dr de_non) (nomark _)) (dw_or (dt_cmp (od_ge hu) (dr (dv 2)) (dr (de_con T.c_MOST_ROWS_texts rfl)) (nomark _)) (dw_or1 (dt_w (dw_and (dt_cmp (od_gt hu) (dr (dv 2)) (dr de_int) (nomark _)) (dw_and1 (dt_cmp (od_ne hu) (dr (de_b1 c1_len rfl T.z_len rfl (dr (dv 4)))) (dr (de_b1 c1_len rfl T.z_len rfl (dr (de_ix (dr_var (i := 1) rfl (by first | exact .inl rfl | exact .inr (.inl rfl) | exact .inr (.inr rfl))) (dr de_int) (fun _ _ => rfl))))) (nomark _))))))))) (dss_cons (ds_raiseX (al := []) (c := "BadText") x_BadText hr rfl tk rfl (da_cons de_str (da_cons (de_bin od_add (dr (dv 2)) (dr de_int)) da_nil))) dss_nil) dss_nil) (dss_cons (ds_mut (al := []) (i := 1) PySem.F.slot_list_append PySem.F.type_list_append mut_append rfl (by first | exact .inl rfl | exact .inr (.inl rfl) | exact .inr (.inr rfl)) (da_cons (dv 4) da_nil)) dss_nil))))) (dss_cons (ds_ret (al := [1]) (de_callE c_table_of hr rfl tk (da_cons (de_var (i := 1) rfl (by first | exact .inl rfl | exact .inr (.inl rfl) | exact .inr (.inr rfl)) (by decide)) da_nil) (leq_cons leq_nil))) dss_nil))))
abbrev N_l_row_told : List Str := ["_law_text", "_law_told", "_law_found", "e"]
theorem sc_l_row_told : FnScope N_l_row_told ["_law_text"] (defScope s_l_row_told) := ⟨rfl, rfl, rfl, by decide +kernel, rfl, by decide +kernel, by decide +kernel⟩
theorem ok_l_row_told {P : Program} {w : World} {K : PySem.W.Frag} {mg : Str → Option Value} {base : Heap} {f : Addr} {fd : FuncData} (T : Txt K mg) (F : Fun K "_law_row_told" "_law_row_told" s_l_row_told f fd) (c_table_read : CallOk P w K mg base 3 "table_read" ["text"] F_table_read) :
    FnOk P w K mg base (L2.CX P w) 4 f fd ["_law_text"] (spD K mg 1 F_l_row_told) :=
  fnD (N := N_l_row_told) (k := 3) (fb := b_l_row_told) F sc_l_row_told fun cdv A outer s H G E hr tk hp =>
    by have hu := Room.hu hr; obtain ⟨ci_BlurError, gi_BlurError, it_BlurError⟩ := T.j_BlurError; have j_ValueError := T.j_ValueError; obtain ⟨cc_BadText, g_BadText, cl_BadText⟩ := T.q_BadText; exact (dss_cons (ds_set (al := []) (i := 1) sc_l_row_told.nd rfl (by first | exact .inl rfl | exact .inr rfl) de_int) (dss_cons (ds_tryX rfl rfl sc_l_row_told.nd tk (fun W pn xe tk _ => (dss_cons (ds_set (al := []) (i := 2) sc_l_row_told.nd rfl (by first | exact .inl rfl | exact .inr rfl) (de_callE c_table_read hr rfl tk (da_cons (dv 0) da_nil) (leq_cons leq_nil))) (dss_cons (ds_if (al := []) (dt_w (dw_and (dt_cmp (od_ne hu) (dr (de_b1 c1_len rfl T.z_len rfl (dr (dv 2)))) (dr (de_b1 c1_len rfl T.z_len rfl (dr (de_of (df_split (dr (dv 0)) (dr de_str)))))) (nomark _)) (dw_and1 (dt_cmp (od_ne hu) (dr (dv 0)) (dr de_str) (nomark _))))) (dss_cons (ds_set (al := []) (i := 1) sc_l_row_told.nd rfl (by first | exact .inl rfl | exact .inr rfl) (de_neg de_int)) dss_nil) dss_nil) dss_nil))) (HdDX.cons (i := 3) (h := h_BadText) (fs := fun a dx k => (sSeq (sSet [] 1 (eFld 3 a dx (a_row k) "row")) (sSeq (sIf [] (bOr (bNot (bTruth (eIsF 3 a dx (i_BlurError k)))) (bNot (bTruth (eIsF 3 a dx (i_ValueError k))))) (sSeq (sSet [] 1 (eNeg (eC (.int 2)))) sSkip) sSkip) sSkip))) rfl rfl ⟨rfl, by decide, .inl g_BadText⟩ cl_BadText (fun a oe cls dx pn k hz hf hm => (dss_cons (ds_set (al := []) (i := 1) sc_l_row_told.nd rfl (by first | exact .inl rfl | exact .inr rfl) (de_fld (i := 3) T.n_row hm hz hf rfl (by first | exact .inl rfl | exact .inr (.inl rfl) | exact .inr (.inr rfl)))) (dss_cons (ds_if (al := []) (dt_w (dw_or (dt_not (dt_truth (dr (de_isF (i := 3) it_BlurError hm hz hf rfl (by first | exact .inl rfl | exact .inr (.inl rfl) | exact .inr (.inr rfl)) rfl T.z_isinstance rfl (pe_glob rfl gi_BlurError (v := .ref ci_BlurError) rfl) (fun u hu => hu))) (fun _ => rfl))) (dw_or1 (dt_not (dt_truth (dr (de_isF (i := 3) j_ValueError hm hz hf rfl (by first | exact .inl rfl | exact .inr (.inl rfl) | exact .inr (.inr rfl)) rfl T.z_isinstance rfl (pe_bltn rfl T.z_ValueError rfl (v := .ty "ValueError") rfl) (fun u hu => hu))) (fun _ => rfl)))))) (dss_cons (ds_set (al := []) (i := 1) sc_l_row_told.nd rfl (by first | exact .inl rfl | exact .inr rfl) (de_neg de_int)) dss_nil) dss_nil) dss_nil))) HdDX.nil)) (dss_cons (ds_ret (al := []) (dv 1)) dss_nil)))
abbrev N_l_is_number : List Str := ["_law_word_here", "_law_figures", "_law_sign"]
theorem sc_l_is_number : FnScope N_l_is_number ["_law_word_here"] (defScope s_l_is_number) := ⟨rfl, rfl, rfl, by decide +kernel, rfl, by decide +kernel, by decide +kernel⟩
theorem ok_l_is_number {P : Program} {w : World} {K : PySem.W.Frag} {mg : Str → Option Value} {base : Heap} {f : Addr} {fd : FuncData} (T : Txt K mg) (F : Fun K "_law_is_number" "_law_is_number" s_l_is_number f fd)  :
    FnOk P w K mg base (L2.CX P w) 1 f fd ["_law_word_here"] (spD K mg 1 F_l_is_number) :=
  fnD (N := N_l_is_number) (k := 0) (fb := b_l_is_number) F sc_l_is_number fun cdv A outer s H G E hr tk hp =>
    by have hu := Room.hu hr; exact (dss_cons (ds_set (al := []) (i := 1) sc_l_is_number.nd rfl (by first | exact .inl rfl | exact .inr rfl) (dv 0)) (dss_cons (ds_if (al := []) (dt_cmp (od_eq hu) (dr (de_cut (dr (dv 0)) do_none (do_some de_int))) (dr de_str) (nomark _)) (dss_cons (ds_set (al := []) (i := 1) sc_l_is_number.nd rfl (by first | exact .inl rfl | exact .inr rfl) (de_cut (dr (dv 0)) (do_some de_int) do_none)) dss_nil) dss_nil) (dss_cons (ds_if (al := []) (dt_w (dw_or (dt_cmp (od_lt hu) (dr (de_b1 c1_len rfl T.z_len rfl (dr (dv 1)))) (dr de_int) (nomark _)) (dw_or (dt_cmp (od_gt hu) (dr (de_b1 c1_len rfl T.z_len rfl (dr (dv 1)))) (dr de_int) (nomark _)) (dw_or1 (dt_w (dw_and (dt_cmp (od_eq hu) (dr (de_ix (dr (dv 1)) (dr de_int) (fun _ _ => rfl))) (dr de_str) (nomark _)) (dw_and1 (dt_cmp (od_ne hu) (dr (dv 0)) (dr de_str) (nomark _))))))))) (dss_cons (ds_ret (al := []) de_bl) dss_nil) dss_nil) (dss_cons (ds_for (al := []) hp rfl (di_str (dv 1)) (dg_name (i := 2) sc_l_is_number.nd rfl (by first | exact .inl rfl | exact .inr rfl)) (fun _ => (dss_cons (ds_if (al := []) (dt_notInA hr.hu65 (dv 2) (dr de_str)) (dss_cons (ds_ret (al := []) de_bl) dss_nil) dss_nil) dss_nil))) (dss_cons (ds_ret (al := []) (de_cmp (od_le hu) (dr (de_t1 c1_intT rfl T.z_int rfl (dr (dv 1)))) (dr (de_bin od_pow (dr de_int) (dr de_int))) (nomark _))) dss_nil)))))
abbrev N_l_due : List Str := ["_law_text", "_law_rows", "_law_wide", "_law_k", "_law_words", "_law_word_here"]
theorem sc_l_due : FnScope N_l_due ["_law_text"] (defScope s_l_due) := ⟨rfl, rfl, rfl, by decide +kernel, rfl, by decide +kernel, by decide +kernel⟩
theorem ok_l_due {P : Program} {w : World} {K : PySem.W.Frag} {mg : Str → Option Value} {base : Heap} {f : Addr} {fd : FuncData} (T : Txt K mg) (F : Fun K "_law_due" "_law_due" s_l_due f fd) (c_l_is_number : CallOk P w K mg base 1 "_law_is_number" ["_law_word_here"] F_l_is_number) :
    FnOk P w K mg base (L2.CX P w) 2 f fd ["_law_text"] (spD K mg 1 F_l_due) :=
  fnD (N := N_l_due) (k := 1) (fb := b_l_due) F sc_l_due fun cdv A outer s H G E hr tk hp =>
    by have hu := Room.hu hr; exact (dss_cons (ds_if (al := []) (dt_cmp (od_eq hu) (dr (dv 0)) (dr de_str) (nomark _)) (dss_cons (ds_ret (al := []) de_int) dss_nil) dss_nil) (dss_cons (ds_set (al := []) (i := 1) sc_l_due.nd rfl (by first | exact .inl rfl | exact .inr rfl) (de_of (df_split (dr (dv 0)) (dr de_str)))) (dss_cons (ds_set (al := []) (i := 2) sc_l_due.nd rfl (by first | exact .inl rfl | exact .inr rfl) (de_b1 c1_len rfl T.z_len rfl (dr (de_of (df_split (dr (de_ix (dr (dv 1)) (dr de_int) (fun _ _ => rfl))) (dr de_str)))))) (dss_cons (ds_for (al := []) hp rfl (di_range1 rfl T.z_range (de_b1 c1_len rfl T.z_len rfl (dr (dv 1)))) (dg_name (i := 3) sc_l_due.nd rfl (by first | exact .inl rfl | exact .inr rfl)) (fun _ => (dss_cons (ds_set (al := []) (i := 4) sc_l_due.nd rfl (by first | exact .inl rfl | exact .inr rfl) (de_of (df_split (dr (de_ixA hr.hu1 (dr (dv 1)) (dv 3) (fun _ _ => rfl) (fun _ _ => rfl))) (dr de_str)))) (dss_cons (ds_if (al := []) (dt_w (dw_or (dt_cmp (od_gt hu) (dr (de_b1 c1_len rfl T.z_len rfl (dr (dv 4)))) (dr de_int) (nomark _)) (dw_or (dt_cmp (od_ne hu) (dr (de_b1 c1_len rfl T.z_len rfl (dr (dv 4)))) (dr (dv 2)) (nomark _)) (dw_or1 (dt_cmp (od_gt hu) (dr (dv 3)) (dr de_int) (nomark _)))))) (dss_cons (ds_ret (al := []) (de_bin od_add (dr (dv 3)) (dr de_int))) dss_nil) dss_nil) (dss_cons (ds_if (al := []) (dt_not (dt_truth (dr (de_b1 (c1_all rfl) rfl T.z_all rfl (dr (de_of (df_comp (own := [("_law_word_here", 5)]) rfl sc_l_due.nd (dir_of (di_seq (dv 4))) (blkOk_by (N := N_l_due) (sc := defScope s_l_due) (by decide +kernel)) (fun _ _ _ _ _ => (dg_name (i := 5) sc_l_due.nd rfl (by first | exact .inl rfl | exact .inr rfl))) (fun _ _ _ _ _ => dts_nil) (fun _ _ _ _ _ => (de_callE c_l_is_number hr rfl takes0 (da_cons (dv 5) da_nil) (leq_cons leq_nil))) (by decide)))))) (fun _ => rfl))) (dss_cons (ds_ret (al := []) (de_bin od_add (dr (dv 3)) (dr de_int))) dss_nil) dss_nil) dss_nil))))) (dss_cons (ds_ret (al := []) de_int) dss_nil)))))
abbrev N_law : List Str := ["_law_script", "_law_k", "_law_text"]
theorem sc_law : FnScope N_law ["_law_script"] (defScope s_law) := ⟨rfl, rfl, rfl, by decide +kernel, rfl, by decide +kernel, by decide +kernel⟩
theorem ok_law {P : Program} {w : World} {K : PySem.W.Frag} {mg : Str → Option Value} {base : Heap} {f : Addr} {fd : FuncData} (T : Txt K mg) (F : Fun K "law" "law" s_law f fd) (c_l_made : CallOk P w K mg base 4 "_law_made" ["_law_cell", "_law_k"] F_l_made) (c_l_row_told : CallOk P w K mg base 4 "_law_row_told" ["_law_text"] F_l_row_told) (c_l_due : CallOk P w K mg base 4 "_law_due" ["_law_text"] F_l_due) :
    FnOk P w K mg base (L2.CX P w) 5 f fd ["_law_script"] (spD K mg 1 F_law) :=
  fnD (N := N_law) (k := 4) (fb := b_law) F sc_law fun cdv A outer s H G E hr tk hp =>
    by have hu := Room.hu hr; exact (dss_cons (ds_for (al := []) hp rfl (di_range1 rfl T.z_range (de_b1 c1_len rfl T.z_len rfl (dr (dv 0)))) (dg_name (i := 1) sc_law.nd rfl (by first | exact .inl rfl | exact .inr rfl)) (fun _ => (dss_cons (ds_set (al := []) (i := 2) sc_law.nd rfl (by first | exact .inl rfl | exact .inr rfl) (de_callE c_l_made hr rfl tk (da_cons (de_ixA hr.hu1 (dr (dv 0)) (dv 1) (fun _ _ => rfl) (fun _ _ => rfl)) (da_cons (dv 1) da_nil)) (leq_cons (leq_cons leq_nil)))) (dss_cons (ds_if (al := []) (dt_cmp (od_ne hu) (dr (de_callE c_l_row_told hr rfl tk (da_cons (dv 2) da_nil) (leq_cons leq_nil))) (dr (de_callE c_l_due hr rfl tk (da_cons (dv 2) da_nil) (leq_cons leq_nil))) (nomark _)) (dss_cons (ds_ret (al := []) de_bl) dss_nil) dss_nil) dss_nil)))) (dss_cons (ds_ret (al := []) (de_and (de_cmp (od_eq hu) (dr (de_callE c_l_row_told hr rfl tk (da_cons de_str da_nil) (leq_cons leq_nil))) (dr de_int) (nomark _)) (de_one (de_cmp (od_eq hu) (dr (de_callE c_l_row_told hr rfl tk (da_cons de_str da_nil) (leq_cons leq_nil))) (dr de_int) (nomark _))))) dss_nil))
end DLaw
namespace DLaw
open PySem PySem.Spec PyProof.Rows L2
open DL
theorem all_mk {P : Program} {w : World} {K : PySem.W.Frag} {h : Heap} {mg : Str → Option Value} {fa : Addr} (X : K.In h) (G : h.Ns mainGlobals mg) (hfa : mg "law" = some (.ref fa))
    {f1 f2 f3 f4 f5 f6 f7 f8 f9 f10 f11 f12 : Addr} {od1 an1 od2 an2 od3 an3 od4 an4 od5 an5 od6 an6 od7 an7 od8 an8 od9 an9 od10 an10 od11 an11 od12 an12 : Option Addr} {sl1 sl2 sl3 sl4 sl5 sl6 sl7 sl8 sl9 sl10 sl11 sl12 : Array (Option Value)} {oc1 kV1 dc1 pm1 cd1 ct1 oc2 kV2 dc2 pm2 cd2 ct2 oc3 kV3 dc3 pm3 cd3 ct3 oc4 kV4 dc4 pm4 cd4 ct4 oc5 kV5 dc5 pm5 cd5 ct5 oc6 kV6 dc6 pm6 cd6 ct6 oc7 kV7 dc7 pm7 cd7 ct7 oc8 kV8 dc8 pm8 cd8 ct8 oc9 kV9 dc9 pm9 cd9 ct9 oc10 kV10 dc10 pm10 cd10 ct10 oc11 kV11 dc11 pm11 cd11 ct11 oc12 kV12 dc12 pm12 cd12 ct12 : Value}
    {C_TooMany : Addr} {C_BadText : Addr} {C_BlurError : Addr} {fI_BadText : Addr} {oI_BadText dI_BadText : Value} {odI_BadText anI_BadText : Option Addr} {kI_BadText mI_BadText cI_BadText tI_BadText : Value} {sI_BadText : Array (Option Value)}{tk1 : Tok} {tk2 : Tok} {tk3 : Tok} {tk4 : Tok} {tk5 : Tok}
    (a1 : PySem.W.nsIn K mainGlobals "_law_mix" = some (some (.ref f1))) (l1 : K.lookup f1 = some ⟨oc1, od1, .func (PySem.W.fnOf "_law_mix" "_law_mix" (defArgs s_l_mix) (defBody s_l_mix) (defScope s_l_mix) .none kV1 dc1 pm1 an1 cd1 ct1), sl1⟩) (c1 : PySem.W.codeIn K cd1 "_law_mix" = true) (k1 : PySem.W.keepIn K (.ref f1) = true)
    (a2 : PySem.W.nsIn K mainGlobals "_law_word" = some (some (.ref f2))) (l2 : K.lookup f2 = some ⟨oc2, od2, .func (PySem.W.fnOf "_law_word" "_law_word" (defArgs s_l_word) (defBody s_l_word) (defScope s_l_word) .none kV2 dc2 pm2 an2 cd2 ct2), sl2⟩) (c2 : PySem.W.codeIn K cd2 "_law_word" = true) (k2 : PySem.W.keepIn K (.ref f2) = true)
    (a3 : PySem.W.nsIn K mainGlobals "_law_spoiled" = some (some (.ref f3))) (l3 : K.lookup f3 = some ⟨oc3, od3, .func (PySem.W.fnOf "_law_spoiled" "_law_spoiled" (defArgs s_l_spoiled) (defBody s_l_spoiled) (defScope s_l_spoiled) .none kV3 dc3 pm3 an3 cd3 ct3), sl3⟩) (c3 : PySem.W.codeIn K cd3 "_law_spoiled" = true) (k3 : PySem.W.keepIn K (.ref f3) = true)
    (a4 : PySem.W.nsIn K mainGlobals "_law_made" = some (some (.ref f4))) (l4 : K.lookup f4 = some ⟨oc4, od4, .func (PySem.W.fnOf "_law_made" "_law_made" (defArgs s_l_made) (defBody s_l_made) (defScope s_l_made) .none kV4 dc4 pm4 an4 cd4 ct4), sl4⟩) (c4 : PySem.W.codeIn K cd4 "_law_made" = true) (k4 : PySem.W.keepIn K (.ref f4) = true)
    (a5 : PySem.W.nsIn K mainGlobals "table_of" = some (some (.ref f5))) (l5 : K.lookup f5 = some ⟨oc5, od5, .func (PySem.W.fnOf "table_of" "table_of" (defArgs s_table_of) (defBody s_table_of) (defScope s_table_of) .none kV5 dc5 pm5 an5 cd5 ct5), sl5⟩) (c5 : PySem.W.codeIn K cd5 "table_of" = true) (k5 : PySem.W.keepIn K (.ref f5) = true)
    (a6 : PySem.W.nsIn K mainGlobals "field_in" = some (some (.ref f6))) (l6 : K.lookup f6 = some ⟨oc6, od6, .func (PySem.W.fnOf "field_in" "field_in" (defArgs s_field_in) (defBody s_field_in) (defScope s_field_in) .none kV6 dc6 pm6 an6 cd6 ct6), sl6⟩) (c6 : PySem.W.codeIn K cd6 "field_in" = true) (k6 : PySem.W.keepIn K (.ref f6) = true)
    (a7 : PySem.W.nsIn K mainGlobals "row_in" = some (some (.ref f7))) (l7 : K.lookup f7 = some ⟨oc7, od7, .func (PySem.W.fnOf "row_in" "row_in" (defArgs s_row_in) (defBody s_row_in) (defScope s_row_in) .none kV7 dc7 pm7 an7 cd7 ct7), sl7⟩) (c7 : PySem.W.codeIn K cd7 "row_in" = true) (k7 : PySem.W.keepIn K (.ref f7) = true)
    (a8 : PySem.W.nsIn K mainGlobals "table_read" = some (some (.ref f8))) (l8 : K.lookup f8 = some ⟨oc8, od8, .func (PySem.W.fnOf "table_read" "table_read" (defArgs s_table_read) (defBody s_table_read) (defScope s_table_read) .none kV8 dc8 pm8 an8 cd8 ct8), sl8⟩) (c8 : PySem.W.codeIn K cd8 "table_read" = true) (k8 : PySem.W.keepIn K (.ref f8) = true)
    (a9 : PySem.W.nsIn K mainGlobals "_law_row_told" = some (some (.ref f9))) (l9 : K.lookup f9 = some ⟨oc9, od9, .func (PySem.W.fnOf "_law_row_told" "_law_row_told" (defArgs s_l_row_told) (defBody s_l_row_told) (defScope s_l_row_told) .none kV9 dc9 pm9 an9 cd9 ct9), sl9⟩) (c9 : PySem.W.codeIn K cd9 "_law_row_told" = true) (k9 : PySem.W.keepIn K (.ref f9) = true)
    (a10 : PySem.W.nsIn K mainGlobals "_law_is_number" = some (some (.ref f10))) (l10 : K.lookup f10 = some ⟨oc10, od10, .func (PySem.W.fnOf "_law_is_number" "_law_is_number" (defArgs s_l_is_number) (defBody s_l_is_number) (defScope s_l_is_number) .none kV10 dc10 pm10 an10 cd10 ct10), sl10⟩) (c10 : PySem.W.codeIn K cd10 "_law_is_number" = true) (k10 : PySem.W.keepIn K (.ref f10) = true)
    (a11 : PySem.W.nsIn K mainGlobals "_law_due" = some (some (.ref f11))) (l11 : K.lookup f11 = some ⟨oc11, od11, .func (PySem.W.fnOf "_law_due" "_law_due" (defArgs s_l_due) (defBody s_l_due) (defScope s_l_due) .none kV11 dc11 pm11 an11 cd11 ct11), sl11⟩) (c11 : PySem.W.codeIn K cd11 "_law_due" = true) (k11 : PySem.W.keepIn K (.ref f11) = true)
    (a12 : PySem.W.nsIn K mainGlobals "law" = some (some (.ref f12))) (l12 : K.lookup f12 = some ⟨oc12, od12, .func (PySem.W.fnOf "law" "law" (defArgs s_law) (defBody s_law) (defScope s_law) .none kV12 dc12 pm12 an12 cd12 ct12), sl12⟩) (c12 : PySem.W.codeIn K cd12 "law" = true) (k12 : PySem.W.keepIn K (.ref f12) = true)
    (z1 : PySem.W.nsIn K mainGlobals "str" = some none)
    (z2 : PySem.W.nsIn K mainGlobals "len" = some none)
    (z3 : PySem.W.nsIn K mainGlobals "range" = some none)
    (z4 : PySem.W.nsIn K mainGlobals "sorted" = some none)
    (z5 : PySem.W.nsIn K mainGlobals "tuple" = some none)
    (z6 : PySem.W.nsIn K mainGlobals "int" = some none)
    (z7 : PySem.W.nsIn K mainGlobals "enumerate" = some none)
    (z8 : PySem.W.nsIn K mainGlobals "isinstance" = some none)
    (z9 : PySem.W.nsIn K mainGlobals "ValueError" = some none)
    (z10 : PySem.W.nsIn K mainGlobals "all" = some none)
    (g_TooMany : PySem.W.nsIn K mainGlobals "TooMany" = some (some (.ref C_TooMany))) (u_TooMany : PySem.W.subIn K (.ref C_TooMany) (.type "BaseException") = some true) (t_TooMany : PySem.W.typeIn K (.ref C_TooMany) = some (.type "type"))
    (x_TooMany : PySem.W.excIn K C_TooMany [.type "ValueError", .type "Exception", .type "BaseException", .type "object"] "ValueError.__new__" = true) (e_TooMany : PySem.W.keepIn K (.ref C_TooMany) = true)
    (g_BadText : PySem.W.nsIn K mainGlobals "BadText" = some (some (.ref C_BadText))) (u_BadText : PySem.W.subIn K (.ref C_BadText) (.type "BaseException") = some true) (t_BadText : PySem.W.typeIn K (.ref C_BadText) = some (.type "type"))
    (i_BadText : PySem.W.isClsIn K C_BadText = true)
    (g_BlurError : PySem.W.nsIn K mainGlobals "BlurError" = some (some (.ref C_BlurError))) (u_BlurError : PySem.W.subIn K (.ref C_BlurError) (.type "BaseException") = some true) (t_BlurError : PySem.W.typeIn K (.ref C_BlurError) = some (.type "type"))
    (i_BlurError : PySem.W.isClsIn K C_BlurError = true)
    (e_BadText : PySem.W.keepIn K (.ref C_BadText) = true) (oe_BadText : oexB K C_BadText = true) (sa_BadText : PySem.W.findIn K (.ref C_BadText) "__setattr__" = some (some (.builtin "object.__setattr__"))) (in_BadText : PySem.W.findIn K (.ref C_BadText) "__init__" = some (some (.ref fI_BadText))) (li_BadText : K.lookup fI_BadText = some ⟨oI_BadText, odI_BadText, .func (PySem.W.fnOf "__init__" "BadText.__init__" (defArgs s_BadText_init) (defBody s_BadText_init) (defScope s_BadText_init) .none kI_BadText dI_BadText mI_BadText anI_BadText cI_BadText tI_BadText), sI_BadText⟩) (ci_BadText : PySem.W.codeIn K cI_BadText "BadText.__init__" = true) (ki_BadText : PySem.W.keepIn K (.ref fI_BadText) = true) (ti_BadText : PySem.W.typeIn K (.ref fI_BadText) = some (.type "function"))
    (na_BadText_row : PySem.W.findIn K (.ref C_BadText) "row" = some none)
    (bsp : PySem.W.specialIn K (.ref C_BlurError) "__getattribute__" = some (some (.builtin "type.__getattribute__"))) (brd : PySem.W.readsIn K C_BlurError (.type "type") = true) (bfc : PySem.W.findCls K (.ref C_BlurError) (.type "type") "__init__" = some (.val (.builtin "ValueError.__init__")))
    (v1_TooMany : PySem.W.findIn K (.ref C_TooMany) "__getattribute__" = some (some (.builtin "BaseException.__getattribute__"))) (v2_TooMany : PySem.W.findIn K (.ref C_TooMany) "__getattr__" = some none) (v3_TooMany : PySem.W.hasDictIn K C_TooMany = true) (v4_TooMany : PySem.W.findIn K (.ref C_TooMany) "__class__" = some (some (.builtin "object.__class__"))) (v5_TooMany : PySem.W.specialIn K (.builtin "object.__class__") "__get__" = some (some (.builtin "getset_descriptor.__get__"))) (v6_TooMany : PySem.W.takesIn K (.builtin "object.__class__") = some true) (v7_TooMany : PySem.W.mroIn K C_TooMany (.type "object") = some true)
    (v1_BadText : PySem.W.findIn K (.ref C_BadText) "__getattribute__" = some (some (.builtin "BaseException.__getattribute__"))) (v2_BadText : PySem.W.findIn K (.ref C_BadText) "__getattr__" = some none) (v3_BadText : PySem.W.hasDictIn K C_BadText = true) (v4_BadText : PySem.W.findIn K (.ref C_BadText) "__class__" = some (some (.builtin "object.__class__"))) (v5_BadText : PySem.W.specialIn K (.builtin "object.__class__") "__get__" = some (some (.builtin "getset_descriptor.__get__"))) (v6_BadText : PySem.W.takesIn K (.builtin "object.__class__") = some true) (v7_BadText : PySem.W.mroIn K C_BadText (.type "object") = some true)
    (s_TooMany_BadText : PySem.W.subIn K (.ref C_TooMany) (.ref C_BadText) = some false)
    (s_BadText_BadText : PySem.W.subIn K (.ref C_BadText) (.ref C_BadText) = some true)
    (s_TooMany_BlurError : PySem.W.subIn K (.ref C_TooMany) (.ref C_BlurError) = some true)
    (s_BadText_BlurError : PySem.W.subIn K (.ref C_BadText) (.ref C_BlurError) = some true)
    (w_TooMany : PySem.W.kitOne K (.ref C_TooMany) (.type "ValueError") = some true)
    (w_BadText : PySem.W.kitOne K (.ref C_BadText) (.type "ValueError") = some true)
    (kg_MOST_ROWS_tables : PySem.W.nsIn K mainGlobals "MOST_ROWS_tables" = some (some (.int 40 tk1)))
    (kg_FIGURES : PySem.W.nsIn K mainGlobals "FIGURES" = some (some (.str "0123456789" tk2)))
    (kg_MOST : PySem.W.nsIn K mainGlobals "MOST" = some (some (.int 1000000000000000000 tk3)))
    (kg_MOST_FIELDS : PySem.W.nsIn K mainGlobals "MOST_FIELDS" = some (some (.int 4 tk4)))
    (kg_MOST_ROWS_texts : PySem.W.nsIn K mainGlobals "MOST_ROWS_texts" = some (some (.int 40 tk5)))
    : ∃ fd : FuncData, (∀ (s : Shared) (u : Value), BindsTo s fd ⟨[u], []⟩ [("_law_script", u)]) ∧ ∀ base : Heap, K.In base → base.Ns mainGlobals mg → FnOk P w K mg base (L2.CX P w) 5 fa fd ["_law_script"] (spD K mg 1 F_law) := by
  have e := hfa.symm.trans (PySem.W.mg_of X G a12)
  cases e
  have T : Txt K mg := ⟨PySem.W.mg_none_of X G z1, PySem.W.mg_none_of X G z2, PySem.W.mg_none_of X G z3, PySem.W.mg_none_of X G z4, PySem.W.mg_none_of X G z5, PySem.W.mg_none_of X G z6, PySem.W.mg_none_of X G z7, PySem.W.mg_none_of X G z8, PySem.W.mg_none_of X G z9, PySem.W.mg_none_of X G z10, ⟨⟨C_TooMany, "ValueError", _, _, _, PySem.F.excBase_ValueError, x_TooMany, PySem.W.mg_of X G g_TooMany, e_TooMany, u_TooMany, t_TooMany⟩⟩, (Con.int.at (PySem.W.mg_of X G kg_MOST_ROWS_tables)), (Con.str.at (PySem.W.mg_of X G kg_FIGURES)), (Con.int.at (PySem.W.mg_of X G kg_MOST)), (Con.int.at (PySem.W.mg_of X G kg_MOST_FIELDS)), (Con.int.at (PySem.W.mg_of X G kg_MOST_ROWS_texts)), ⟨_, PySem.W.mg_of X G g_BlurError, (IsTab.cons (PySem.W.mg_of X G g_TooMany) ⟨v1_TooMany, v2_TooMany, u_TooMany, v3_TooMany, v4_TooMany, v5_TooMany, v6_TooMany, v7_TooMany⟩ (kit_own (fun _ => rfl) i_BlurError t_BlurError s_TooMany_BlurError) (IsTab.cons (PySem.W.mg_of X G g_BadText) ⟨v1_BadText, v2_BadText, u_BadText, v3_BadText, v4_BadText, v5_BadText, v6_BadText, v7_BadText⟩ (kit_own (fun _ => rfl) i_BlurError t_BlurError s_BadText_BlurError) IsTab.nil))⟩, (IsTab.cons (PySem.W.mg_of X G g_TooMany) ⟨v1_TooMany, v2_TooMany, u_TooMany, v3_TooMany, v4_TooMany, v5_TooMany, v6_TooMany, v7_TooMany⟩ w_TooMany (IsTab.cons (PySem.W.mg_of X G g_BadText) ⟨v1_BadText, v2_BadText, u_BadText, v3_BadText, v4_BadText, v5_BadText, v6_BadText, v7_BadText⟩ w_BadText IsTab.nil)), ⟨_, PySem.W.mg_of X G g_BadText, (Clause.cons (PySem.W.mg_of X G g_TooMany) (exm_two u_BadText i_BadText t_BadText s_TooMany_BadText) (Clause.cons (PySem.W.mg_of X G g_BadText) (exm_two u_BadText i_BadText t_BadText s_BadText_BadText) Clause.nil))⟩, (FldTab.cons (PySem.W.mg_of X G g_BadText) ⟨v1_BadText, v2_BadText, u_BadText, v3_BadText⟩ na_BadText_row FldTab.nil)⟩
  have F1 := fun_mk (st := s_l_mix) l1 c1 k1
  have b1 := F1.binds (ps := ["_law_cell", "_law_k"]) fun _ _ _ _ _ _ us hl => match us, hl with | [_, _], _ => rfl
  have F2 := fun_mk (st := s_l_word) l2 c2 k2
  have b2 := F2.binds (ps := ["_law_n"]) fun _ _ _ _ _ _ us hl => match us, hl with | [_], _ => rfl
  have F3 := fun_mk (st := s_l_spoiled) l3 c3 k3
  have b3 := F3.binds (ps := ["_law_row", "_law_n"]) fun _ _ _ _ _ _ us hl => match us, hl with | [_, _], _ => rfl
  have F4 := fun_mk (st := s_l_made) l4 c4 k4
  have b4 := F4.binds (ps := ["_law_cell", "_law_k"]) fun _ _ _ _ _ _ us hl => match us, hl with | [_, _], _ => rfl
  have F5 := fun_mk (st := s_table_of) l5 c5 k5
  have b5 := F5.binds (ps := ["rows"]) fun _ _ _ _ _ _ us hl => match us, hl with | [_], _ => rfl
  have F6 := fun_mk (st := s_field_in) l6 c6 k6
  have b6 := F6.binds (ps := ["word"]) fun _ _ _ _ _ _ us hl => match us, hl with | [_], _ => rfl
  have F7 := fun_mk (st := s_row_in) l7 c7 k7
  have b7 := F7.binds (ps := ["text"]) fun _ _ _ _ _ _ us hl => match us, hl with | [_], _ => rfl
  have F8 := fun_mk (st := s_table_read) l8 c8 k8
  have b8 := F8.binds (ps := ["text"]) fun _ _ _ _ _ _ us hl => match us, hl with | [_], _ => rfl
  have F9 := fun_mk (st := s_l_row_told) l9 c9 k9
  have b9 := F9.binds (ps := ["_law_text"]) fun _ _ _ _ _ _ us hl => match us, hl with | [_], _ => rfl
  have F10 := fun_mk (st := s_l_is_number) l10 c10 k10
  have b10 := F10.binds (ps := ["_law_word_here"]) fun _ _ _ _ _ _ us hl => match us, hl with | [_], _ => rfl
  have F11 := fun_mk (st := s_l_due) l11 c11 k11
  have b11 := F11.binds (ps := ["_law_text"]) fun _ _ _ _ _ _ us hl => match us, hl with | [_], _ => rfl
  have F12 := fun_mk (st := s_law) l12 c12 k12
  have b12 := F12.binds (ps := ["_law_script"]) fun _ _ _ _ _ _ us hl => match us, hl with | [_], _ => rfl
  refine ⟨PySem.W.fnOf "law" "law" (defArgs s_law) (defBody s_law) (defScope s_law) .none kV12 dc12 pm12 an12 cd12 ct12, fun s v => .of_eq rfl, fun base _ _ => ?_⟩
  have TB : BasE K C_BlurError := ⟨bsp, t_BlurError, brd, bfc⟩
  have FI_BadText := fun_mk (st := s_BadText_init) li_BadText ci_BadText ki_BadText
  have bI_BadText := FI_BadText.binds (ps := ["self", "words", "row"]) fun _ _ _ _ _ _ us hl => match us, hl with | [_, _, _], _ => rfl
  have x_BadText : FldOk P w K mg base 1 "BadText" ["row"] := ⟨⟨C_BadText, fI_BadText, _, oexB_ok oe_BadText sa_BadText u_BadText t_BadText e_BadText, (fun n hn => by simp only [List.mem_cons, List.not_mem_nil, or_false] at hn; rcases hn with rfl <;> first | exact na_BadText_row), in_BadText, ti_BadText, PySem.W.mg_of X G g_BadText, bI_BadText, ok_BadText_init TB (PySem.W.mg_of X G g_BlurError) FI_BadText⟩⟩
  have h_l_mix : CallOk P w K mg base 1 "_law_mix" ["_law_cell", "_law_k"] F_l_mix := ⟨f1, _, PySem.W.mg_of X G a1, k1, b1, ok_l_mix T F1 ⟩
  have h_l_word : CallOk P w K mg base 1 "_law_word" ["_law_n"] F_l_word := ⟨f2, _, PySem.W.mg_of X G a2, k2, b2, ok_l_word T F2 ⟩
  have h_l_spoiled : CallOk P w K mg base 2 "_law_spoiled" ["_law_row", "_law_n"] F_l_spoiled := ⟨f3, _, PySem.W.mg_of X G a3, k3, b3, ok_l_spoiled T F3 (h_l_word.up (by decide))⟩
  have h_l_made : CallOk P w K mg base 3 "_law_made" ["_law_cell", "_law_k"] F_l_made := ⟨f4, _, PySem.W.mg_of X G a4, k4, b4, ok_l_made T F4 (h_l_mix.up (by decide)) (h_l_spoiled.up (by decide))⟩
  have h_table_of : CallOk P w K mg base 1 "table_of" ["rows"] F_table_of := ⟨f5, _, PySem.W.mg_of X G a5, k5, b5, ok_table_of T F5 ⟩
  have h_field_in : CallOk P w K mg base 1 "field_in" ["word"] F_field_in := ⟨f6, _, PySem.W.mg_of X G a6, k6, b6, ok_field_in T F6 ⟩
  have h_row_in : CallOk P w K mg base 2 "row_in" ["text"] F_row_in := ⟨f7, _, PySem.W.mg_of X G a7, k7, b7, ok_row_in T F7 (h_field_in.up (by decide))⟩
  have h_table_read : CallOk P w K mg base 3 "table_read" ["text"] F_table_read := ⟨f8, _, PySem.W.mg_of X G a8, k8, b8, ok_table_read T F8 (x_BadText.up (by decide)) (h_table_of.up (by decide)) (h_row_in.up (by decide))⟩
  have h_l_row_told : CallOk P w K mg base 4 "_law_row_told" ["_law_text"] F_l_row_told := ⟨f9, _, PySem.W.mg_of X G a9, k9, b9, ok_l_row_told T F9 (h_table_read.up (by decide))⟩
  have h_l_is_number : CallOk P w K mg base 1 "_law_is_number" ["_law_word_here"] F_l_is_number := ⟨f10, _, PySem.W.mg_of X G a10, k10, b10, ok_l_is_number T F10 ⟩
  have h_l_due : CallOk P w K mg base 2 "_law_due" ["_law_text"] F_l_due := ⟨f11, _, PySem.W.mg_of X G a11, k11, b11, ok_l_due T F11 (h_l_is_number.up (by decide))⟩
  exact ok_law T F12 (h_l_made.up (by decide)) (h_l_row_told.up (by decide)) (h_l_due.up (by decide))
end DLaw
open PySem PySem.W PyProof.Rows
set_option maxRecDepth 100000 in
set_option maxHeartbeats 0 in
theorem PySem.Challenge.cw_blurdesk_k84_tables_refused_holds : PySem.Challenge.rw_blurdesk_k84_tables_refused.Holds := by
  w_on; o_law; k_head; (case hw => w_witness2)
  k_fill
  refine DL.endW (l := PySem.Challenge.rw_blurdesk_k84_tables_refused) (k := 5) (F := DLaw.F_law) (x := "_law_script") rfl rfl (by decide) (fun w h Y => PySem.W.kIn_of Y) ?F DLaw.law_holds
  case F =>
    intro w mg fa h KX G hmg
    refine' DLaw.all_mk KX G hmg ?a1 ?l1 ?c1 ?k1 ?a2 ?l2 ?c2 ?k2 ?a3 ?l3 ?c3 ?k3 ?a4 ?l4 ?c4 ?k4 ?a5 ?l5 ?c5 ?k5 ?a6 ?l6 ?c6 ?k6 ?a7 ?l7 ?c7 ?k7 ?a8 ?l8 ?c8 ?k8 ?a9 ?l9 ?c9 ?k9 ?a10 ?l10 ?c10 ?k10 ?a11 ?l11 ?c11 ?k11 ?a12 ?l12 ?c12 ?k12 ?z1 ?z2 ?z3 ?z4 ?z5 ?z6 ?z7 ?z8 ?z9 ?z10 ?g_TooMany ?u_TooMany ?t_TooMany ?x_TooMany ?e_TooMany ?g_BadText ?u_BadText ?t_BadText ?i_BadText ?g_BlurError ?u_BlurError ?t_BlurError ?i_BlurError ?e_BadText ?oe_BadText ?sa_BadText ?in_BadText ?li_BadText ?ci_BadText ?ki_BadText ?ti_BadText ?na_BadText_row ?bsp ?brd ?bfc ?v1_TooMany ?v2_TooMany ?v3_TooMany ?v4_TooMany ?v5_TooMany ?v6_TooMany ?v7_TooMany ?v1_BadText ?v2_BadText ?v3_BadText ?v4_BadText ?v5_BadText ?v6_BadText ?v7_BadText ?s_TooMany_BadText ?s_BadText_BadText ?s_TooMany_BlurError ?s_BadText_BlurError ?w_TooMany ?w_BadText ?kg_MOST_ROWS_tables ?kg_FIGURES ?kg_MOST ?kg_MOST_FIELDS ?kg_MOST_ROWS_texts
    (case a1 => k_is); (case l1 => k_is); (case c1 => k_is); (case k1 => k_is); (case a2 => k_is); (case l2 => k_is)
    (case c2 => k_is); (case k2 => k_is); (case a3 => k_is); (case l3 => k_is); (case c3 => k_is); (case k3 => k_is)
    (case a4 => k_is); (case l4 => k_is); (case c4 => k_is); (case k4 => k_is); (case a5 => k_is); (case l5 => k_is)
    (case c5 => k_is); (case k5 => k_is); (case a6 => k_is); (case l6 => k_is); (case c6 => k_is); (case k6 => k_is)
    (case a7 => k_is); (case l7 => k_is); (case c7 => k_is); (case k7 => k_is); (case a8 => k_is); (case l8 => k_is)
    (case c8 => k_is); (case k8 => k_is); (case a9 => k_is); (case l9 => k_is); (case c9 => k_is); (case k9 => k_is)
    (case a10 => k_is); (case l10 => k_is); (case c10 => k_is); (case k10 => k_is); (case a11 => k_is); (case l11 => k_is)
    (case c11 => k_is); (case k11 => k_is); (case a12 => k_is); (case l12 => k_is); (case c12 => k_is); (case k12 => k_is)
    (case z1 => k_is); (case z2 => k_is); (case z3 => k_is); (case z4 => k_is); (case z5 => k_is); (case z6 => k_is)
    (case z7 => k_is); (case z8 => k_is); (case z9 => k_is); (case z10 => k_is); (case g_TooMany => k_is); (case u_TooMany => k_is)
    (case t_TooMany => k_is); (case x_TooMany => k_exc); (case e_TooMany => k_is); (case g_BadText => k_is); (case u_BadText => k_is); (case t_BadText => k_is)
    (case i_BadText => k_is); (case g_BlurError => k_is); (case u_BlurError => k_is); (case t_BlurError => k_is); (case i_BlurError => k_is); (case e_BadText => k_is)
    (case oe_BadText => kernel_rfl); (case sa_BadText => k_is); (case in_BadText => k_is); (case li_BadText => k_is); (case ci_BadText => k_is); (case ki_BadText => k_is)
    (case ti_BadText => k_is); (case na_BadText_row => k_is); (case bsp => k_is); (case brd => k_is); (case bfc => k_is); (case v1_TooMany => k_is)
    (case v2_TooMany => k_is); (case v3_TooMany => k_is); (case v4_TooMany => k_is); (case v5_TooMany => k_is); (case v6_TooMany => k_is); (case v7_TooMany => k_is)
    (case v1_BadText => k_is); (case v2_BadText => k_is); (case v3_BadText => k_is); (case v4_BadText => k_is); (case v5_BadText => k_is); (case v6_BadText => k_is)
    (case v7_BadText => k_is); (case s_TooMany_BadText => first | rfl | k_is); (case s_BadText_BadText => first | rfl | k_is); (case s_TooMany_BlurError => first | rfl | k_is); (case s_BadText_BlurError => first | rfl | k_is); (case w_TooMany => first | rfl | k_is)
    (case w_BadText => first | rfl | k_is); (case kg_MOST_ROWS_tables => k_is); (case kg_FIGURES => k_is); (case kg_MOST => k_is); (case kg_MOST_FIELDS => k_is); (case kg_MOST_ROWS_texts => k_is)
#print axioms PySem.Challenge.cw_blurdesk_k84_tables_refused_holds
