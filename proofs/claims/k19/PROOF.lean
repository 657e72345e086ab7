import PyProof.Rows.All
import Wide.All
import OpenK.AllK
import Wide.FinOn
import HandS.ForExc
import HandS.ForMost
import HandS.Wide
import HandS.ExcOwn
import HandS.TupAny
import HandS.TupMul
import KE.DataCmp
import KE.SortData
import HandS.TupLen
import HandS.IsInst
import HandS.EndBits
import HandS.Zip
import HandS.ExcIs
import KE.DataMinMax
import KE.DataFind
import HandS.Conv
import HandS.Deep
import HandS.Style
import HandS.Text
import HandS.SetFor
import KE.GoesEnum
import HandS.Iter
import HandS.RevTup
import HandS.Rev
import HandS.DictComp
import HandS.Set
import HandS.TupSets
import HandS.SetKeys
import HandS.SortKw
import HandS.DictSubView
import KE.KDictWalk
import KE.KEqDict
import PyProof.DictUpdate
import PyProof.FactsAll.dict_4
import KE.KDictPairs
import KE.KIndexOf
import PyProof.SeqIndex
import PyProof.FactsAll.tuple_0
import PyProof.FactsAll.tuple_2
import HandS.FStr
import PyProof.SumAny
import HandS.TryMany
import HandS.ExcField
import HandS.ExcInit
import PyProof.StrOps2
import HandS.Defaults
import HandS.CallSlots
import HandS.ExcValue
import HandS.More
import PyProof.MinMaxWalk
import HandS.HeadHook3
import HandS.Head0
import HandS.Head1
import HandS.Head2
import HandS.HeadHook1
import HandS.HeadHook2
import HandS.Words
import PySem.Challenge.RW_blurdesk_k19_capped
set_option Elab.async false
set_option linter.all false
set_option maxRecDepth 100000
set_option maxHeartbeats 4000000
/-! the head by one kernel run (HandS.Head0..2): facts as truth values of what is looked at; stands ahead of all else -/
namespace DL
open PySem PySem.Spec PyProof.Rows L2
abbrev BF : Type := PySem.W.Frag → Bool
/-- a def: the name it stands at, its own name, its text, its defaults -/
structure DX where
  x : Str
  r : Str
  st : Stmt
  dfl : List Int
def DX.val (d : DX) : Bool × He.FnW := (true, some (d.r, d.r, L2.defArgs d.st, .stmts (L2.defBody d.st), L2.defScope d.st, mainGlobals, [], builtinsNs))
def oneX (K : PySem.W.Frag) (d : DX) : Bool × He.FnW := match PySem.W.nsIn K mainGlobals d.x with
  | some (some (.ref a)) => HandSHeadRun.frNat a fun a => (match K.lookup a with
    | some ⟨_, _, .func fd, _⟩ => (PySem.W.codeIn K fd.code d.r && He.dflB K fd.defaults (d.dfl.map V.int), some (fd.name, fd.qualname, fd.params, fd.body, fd.scope, fd.globals, fd.closure, fd.builtins))
    | _ => (false, none))
  | _ => (false, none)
abbrev AlX : Type := Bool × (List (Bool × He.FnW) × (List He.FnW × List (Option (List (Option (Str × Int))))))
def obsX (fa : List BF) (fn : List DX) (fm : List He.DefD) (ts : List He.Tab) (K : PySem.W.Frag) : AlX :=
  ((fa.all fun f => f K) && fm.all fun d => d.ok K, fn.map fun d => oneX K d, fm.map fun d => He.fnW K d.at_, ts.map fun t => He.dicW K (t.1 K))
def valX (fn : List DX) (fm : List He.DefD) (ts : List He.Tab) (w : World) : AlX := (true, fn.map DX.val, fm.map He.DefD.val, ts.map fun t => some (He.keysIn w.params t.2))
structure SaysX (fa : List BF) (fn : List DX) (fm : List He.DefD) (ts : List He.Tab) (w : World) (K : PySem.W.Frag) : Prop where
  eq : obsX fa fn fm ts K = valX fn fm ts w
/-- the list first, then what is done with it -/
def frcL {α β : Type} : List α → (List α → β) → β
  | [], k => k []
  | x :: r, k => frcL r fun r' => k (x :: r')
theorem frcL_eq {α β : Type} : ∀ (l : List α) (k : List α → β), frcL l k = k l
  | [], _ => rfl
  | x :: r, k => by
    show frcL r (fun r' => k (x :: r')) = _
    rw [frcL_eq r]
/-- what an object names -/
def refsX (o : Obj) : List Addr := match o.data with
  | .seq its _ => its.toList.flatMap He.refV
  | .dict es _ => es.toList.flatMap fun e => He.refV e.val
  | .func fd => He.refV fd.code ++ He.refV fd.defaults
  | .cls cd => cd.ns :: cd.mro.flatMap He.refV
  | _ => []
/-- all that is reached from these: seen, as bits of a number -/
def reachG (g : Addr → Option Obj) : Nat → List Addr → Nat → List Addr
  | 0, _, _ => []
  | _ + 1, [], _ => []
  | n + 1, a :: r, seen => match Nat.land (Nat.shiftRight seen a) 1 with
    | 0 => (match g a with
      | some o => HandSHeadRun.frNat (Nat.lor seen (Nat.shiftLeft 1 a)) fun seen' => a :: reachG g n (refsX o ++ r) seen'
      | none => reachG g n r seen)
    | _ + 1 => reachG g n r seen
def frX (n : Nat) (g : Addr → Option Obj) : PySem.W.Frag := He.frG g (reachG g n [mainGlobals, cStatics] 0)
def obsXG (n : Nat) (fa : List BF) (fn : List DX) (fm : List He.DefD) (ts : List He.Tab) (g : Addr → Option Obj) : AlX := frcL (frX n g) fun K => obsX fa fn fm ts K
def hookX (n : Nat) (fa : List BF) (fn : List DX) (fm : List He.DefD) (ts : List He.Tab) : PySem.W.Hook where
  α := AlX
  obs := fun s => obsXG n fa fn fm ts s.heap.get?
  val := fun w => valX fn fm ts w
  says := fun w h => ∃ K : PySem.W.Frag, K.In h ∧ SaysX fa fn fm ts w K
  of := fun w s e => ⟨_, He.frG_in, ⟨by
    have e2 : frcL (frX n s.heap.get?) (fun K => obsX fa fn fm ts K) = valX fn fm ts w := e
    rw [frcL_eq] at e2
    exact e2⟩⟩
  keeps := fun _ _ _ ⟨K, hK, c⟩ k => ⟨K, PySem.W.Frag.In.keeps hK k, c⟩
theorem obsXG_eq {n : Nat} {fa : List BF} {fn : List DX} {fm : List He.DefD} {ts : List He.Tab} {g : Addr → Option Obj} {s : Shared} (h : ∀ a, g a = s.heap.get? a) : obsXG n fa fn fm ts g = (hookX n fa fn fm ts).obs s := by
  have e : g = s.heap.get? := funext h
  rw [e] <;> rfl
/-- a class's method -/
def dI (x m r : Str) (st : Stmt) : He.DefD := ⟨(x, some m), m, r, L2.defArgs st, L2.defBody st, L2.defScope st, [], []⟩
/-! ### facts -/
def fGlo (x : Str) : BF := fun K => He.eqO (PySem.W.nsIn K mainGlobals x) (some (some (.ref (He.ga K x))))
def fFree (x : Str) : BF := fun K => He.eqO (PySem.W.nsIn K mainGlobals x) (some none)
/-- a name of the class x is this builtin -/
def fFnd (x m : Str) (v : Option Value) : BF := fun K => He.eqO (PySem.W.findIn K (.ref (He.ga K x)) m) (some v)
/-- a class of the program's own: an error -/
def fCls (x : Str) : BF := fun K => decide (PySem.W.subIn K (.ref (He.ga K x)) (.type "BaseException") = some true) && decide (PySem.W.typeIn K (.ref (He.ga K x)) = some (.type "type"))
def fExc (x : Str) : BF := fun K => PySem.W.excIn K (He.ga K x) [.type "ValueError", .type "Exception", .type "BaseException", .type "object"] "ValueError.__new__"
def fKeep (x : Str) : BF := fun K => PySem.W.keepIn K (.ref (He.ga K x))
def fIsC (x : Str) : BF := fun K => PySem.W.isClsIn K (He.ga K x)
/-- a method of the class x -/
def fMth (x m : Str) : BF := fun K => He.eqO (PySem.W.findIn K (.ref (He.ga K x)) m) (some (some (.ref (He.ma K (He.ga K x) m)))) && (PySem.W.keepIn K (.ref (He.ma K (He.ga K x) m)) && decide (PySem.W.typeIn K (.ref (He.ma K (He.ga K x) m)) = some (.type "function")))
def fKit (x : Str) : BF := fun K => decide (PySem.W.kitOne K (.ref (He.ga K x)) (.type "ValueError") = some true)
def fSub (x y : Str) (b : Bool) : BF := fun K => decide (PySem.W.subIn K (.ref (He.ga K x)) (.ref (He.ga K y)) = some b)
def fNe (x y : Str) : BF := fun K => !(Value.ref (He.ga K x) == Value.ref (He.ga K y))
/-- what isinstance and a look at a field ask of a class -/
def fLook (x : Str) : BF := fun K => PySem.W.hasDictIn K (He.ga K x) && (He.eqO (PySem.W.findIn K (.ref (He.ga K x)) "__getattribute__") (some (some (.builtin "BaseException.__getattribute__"))) && (He.eqO (PySem.W.findIn K (.ref (He.ga K x)) "__getattr__") (some none) && (He.eqO (PySem.W.findIn K (.ref (He.ga K x)) "__class__") (some (some (.builtin "object.__class__"))) && (He.eqO (PySem.W.specialIn K (.builtin "object.__class__") "__get__") (some (some (.builtin "getset_descriptor.__get__"))) && (decide (PySem.W.takesIn K (.builtin "object.__class__") = some true) && decide (PySem.W.mroIn K (He.ga K x) (.type "object") = some true))))))
/-- an own error whose __init__ goes by the class's name to ValueError's -/
def oexH (K : PySem.W.Frag) (C : Addr) : Bool := match K.lookup C with
  | some ⟨.type "type", _, .cls cd, sl⟩ => (match cd.mro, sl.toList with
    | .ref C' :: bm, [_, _, _, _, some (.builtin n), _] => C' == C && n == "ValueError.__new__" && !cd.hasDel && cd.hasDict && PySem.HandSPX.refsVE bm
    | _, _ => false)
  | _ => false
def fOex (x : Str) : BF := fun K => oexH K (He.ga K x)
def fBas (x : Str) : BF := fun K => He.eqO (PySem.W.specialIn K (.ref (He.ga K x)) "__getattribute__") (some (some (.builtin "type.__getattribute__"))) && (PySem.W.readsIn K (He.ga K x) (.type "type") && match PySem.W.findCls K (.ref (He.ga K x)) (.type "type") "__init__" with
  | some (.val (.builtin s)) => decide (s = "ValueError.__init__")
  | _ => false)
/-- a constant as it is written -/
inductive KC where
  | int (i : Int)
  | str (x : Str)
  | tup (l : List KC)
def conL (f : KC → Value → Bool) : List KC → List Value → Bool
  | [], [] => true
  | d :: ds, u :: us => f d u && conL f ds us
  | _, _ => false
def conB (K : PySem.W.Frag) : Nat → KC → Value → Bool
  | 0, _, _ => false
  | n + 1, d, u => match d, u with
    | .int i, .int j _ => decide (j = i)
    | .str x, .str y _ => decide (y = x)
    | .tup ds, .ref a => (match K.lookup a with
      | some ⟨.type c, none, .seq its _, _⟩ => decide (c = "tuple") && (decide (its.size ≤ 1000) && conL (conB K n) ds its.toList)
      | _ => false)
    | _, _ => false
def fCon (x : Str) (d : KC) : BF := fun K => match PySem.W.nsIn K mainGlobals x with
  | some (some u) => conB K 9 d u
  | _ => false
def fTab (x : Str) (tab : List (Str × Int)) : BF := fun K => tab.all fun p => match PySem.W.nsIn K (He.ga K x) p.1 with
  | some (some (.int j _)) => decide (j = p.2)
  | _ => false
/-! the run looked at in two goes -/
section
open PySem.W PySem.Calls HandSHeadRun
def RunA (r : OpenRow) (q : Program) (M : Nat) (loose : List PySem.Str) (w : World) : Prop :=
  ∀ os : OsState, (endF (stepQ (denQ tabQ) r.prog w) M r.prog w os).map (fun s => (looksF r.prog (boot_heap w.params) s.abs, seenQ q loose (importedModules r.prog.main.body) (fun s => xlAt q [] s && recOk r.toRowW.records s) s.abs)) = some (true, openGood q loose)
def RunB (r : OpenRow) (H : Hook) (ob : SharedT → H.α) (M : Nat) (w : World) : Prop :=
  ∀ os : OsState, (endF (stepQ (denQ tabQ) r.prog w) M r.prog w os).map ob = some (H.val w)
theorem run_two {r : OpenRow} {q : Program} {H : Hook} {ob : SharedT → H.α} {M : Nat} {loose : List PySem.Str} {w : World} (a : RunA r q M loose w) (b : RunB r H ob M w) : RunEq r q H ob M loose w := fun os => by
  have a := a os
  have b := b os
  cases e : endF (stepQ (denQ tabQ) r.prog w) M r.prog w os with
  | none => rw [e] at b; cases b
  | some s =>
    rw [e] at a b
    have a1 := Option.some.inj a
    have b1 := Option.some.inj b
    rw [Option.map_some, b1]
    have x := congrArg Prod.fst a1
    have y := congrArg Prod.snd a1
    dsimp only at x y
    rw [x, y]
end
end DL

namespace DLaw
open DL PySem PySem.Spec PyProof.Rows L2
def htop (i : Nat) : Stmt := PySem.Challenge.pw_blurdesk_k19_capped.main.body.getD i (.Pass ⟨0, 0, 0, 0⟩)
def hfn0 : List DX := [⟨"_law_cell_at", "_law_cell_at", htop 20, []⟩, ⟨"_law_mix", "_law_mix", htop 16, []⟩, ⟨"_law_number", "_law_number", htop 17, []⟩, ⟨"_law_heap", "_law_heap", htop 22, []⟩, ⟨"_law_names", "_law_names", htop 21, []⟩, ⟨"_law_leaf", "_law_leaf", htop 18, []⟩, ⟨"_law_term", "_law_term", htop 19, []⟩, ⟨"field_at", "field_at", htop 6, []⟩, ⟨"held", "held", htop 2, []⟩, ⟨"worked", "worked", htop 3, []⟩, ⟨"marked", "marked", htop 4, []⟩, ⟨"reckoned", "reckoned", htop 5, []⟩, ⟨"worth", "worth", htop 7, []⟩, ⟨"kept_rows", "kept_rows", htop 9, []⟩, ⟨"made_rows", "made_rows", htop 10, []⟩, ⟨"unlike_rows", "unlike_rows", htop 11, []⟩, ⟨"capped_rows", "capped_rows", htop 12, []⟩, ⟨"matched_rows", "matched_rows", htop 13, []⟩, ⟨"heap_of", "heap_of", htop 14, []⟩, ⟨"_law_good", "_law_good", htop 23, []⟩, ⟨"_law_by_worth", "_law_by_worth", htop 24, []⟩, ⟨"_law_group_right", "_law_group_right", htop 25, []⟩, ⟨"law", "law", htop 26, []⟩]
def hfn : List DX := hfn0
def hfa0 : List BF := [fFree "len", fFree "range", fFree "tuple", fFree "sorted", fFree "sum", fFree "min", fFree "max", fFree "int", fFree "isinstance", fFree "bool", fFree "list", fFree "dict", fCon "MOST" (.int 1000000000000000000)]
def hfa : List BF := hfa0
def hfm : List He.DefD := []
def hts : List He.Tab := []
def hnm0 : List PySem.Str := ["__name__", "MOST", "held", "worked", "marked", "reckoned", "field_at", "worth", "kept_rows", "made_rows", "unlike_rows", "capped_rows", "matched_rows", "heap_of", "_law_mix", "_law_number", "_law_leaf", "_law_term", "_law_cell_at", "_law_names", "_law_heap", "_law_good", "_law_by_worth", "_law_group_right"]
def hnm : List PySem.Str := hnm0
abbrev hR : PySem.W.OpenRow := PySem.W.OpenLaw.row PySem.Challenge.rw_blurdesk_k19_capped
abbrev hk : PySem.W.Hook := hookX 100000 hfa hfn hfm hts
def hob (s : PySem.W.SharedT) : AlX := obsXG 100000 hfa hfn hfm hts (HandSHeadRun.getT s)
theorem hob_eq (s : PySem.W.SharedT) : hob s = hk.obs s.abs := obsXG_eq (HandSHeadRun.getT_eq s)
set_option maxRecDepth 1000000 in
set_option maxHeartbeats 0 in
theorem hrun (w : World) : HandSHeadRun.RunEq hR (PySem.W.view hR.prog [26]) hk hob 100000 hnm w := by
  intro os
  kernel_rfl
set_option maxRecDepth 100000 in
set_option maxHeartbeats 0 in
theorem hd_ (h : PySem.W.WalkO (PySem.W.view hR.prog [26]) hnm (PySem.W.XL (PySem.W.view hR.prog [26]) []) hk.says hR.toRowW (HandSHeadRun.topDef hR.prog 26) [] (fun f vs => PySem.call f vs)) : PySem.Challenge.rw_blurdesk_k19_capped.Holds := by
  w_on; o_law
  refine HandSHeadRun.head_any (r := hR) (q := PySem.W.view hR.prog [26]) (H := hk) (ob := hob) (M := 100000) (loose := hnm) (d := HandSHeadRun.topDef hR.prog 26) (kwd := []) hob_eq
    (by kernel_rfl) (fun s => by kernel_rfl) hrun (by kernel_rfl) (by kernel_rfl) (by kernel_rfl) (by rfl) (by first | assumption | decide +kernel) (by decide +kernel) ⟨rfl, rfl, rfl, rfl, rfl, by decide +kernel⟩ ?hw h
  case hw => w_witness2
theorem hd_name : (HandSHeadRun.topDef hR.prog 26).name = ("law" : PySem.Str) := by kernel_rfl
theorem hd_dfl : (HandSHeadRun.topDef hR.prog 26).params.defaults = [] := by kernel_rfl
end DLaw
/-! Plain data over the hand layer: values without addresses; lists and dicts by value, changed in place only through the one name that holds them. -/
namespace DL
open PySem PySem.Spec PyProof.Rows L2

/-- a value, whole -/
inductive D where
  | non
  | bl (b : Bool)
  | int (i : Int)
  | str (x : Str)
  | obj (v : V)
  | tup (xs : List D)
  | con (xs : List D)
  | lst (xs : List D)
  | dct (t : Bool) (kvs : List (D × D))
  | err (c : String) (kvs : List (D × D))
  | exn (a d : Addr) (kvs : List (D × D))

/-- what comes of a reckoning -/
inductive Res (α : Type) where
  | ok (a : α)
  | exc (c : String) (fs : List (D × D))
  | bad

def Res.bind {α β : Type} (r : Res α) (f : α → Res β) : Res β := match r with
  | .ok a => f a
  | .exc c fs => .exc c fs
  | .bad => .bad
@[simp] theorem Res.bind_ok {α β : Type} (a : α) (f : α → Res β) : (Res.ok a).bind f = f a := Eq.trans rfl rfl
@[simp] theorem Res.bind_exc {α β : Type} (c : String) (fs : List (D × D)) (f : α → Res β) : (Res.exc c fs : Res α).bind f = .exc c fs := Eq.trans rfl rfl
@[simp] theorem Res.bind_bad {α β : Type} (f : α → Res β) : (Res.bad : Res α).bind f = .bad := Eq.trans rfl rfl

/-- keys of dicts -/
def keyD : Key → D
  | .inl i => .int i
  | .inr x => .str x
def keyT (k : List Key) : D := .tup (k.map keyD)

/-- a tuple without a dict of its own -/
def PlT (K : PySem.W.Frag) (G : Hp) (a : Addr) (xs : List V) : Prop :=
  (∃ o, G a = some (.frz o (.tup xs)) ∧ o.dict = none) ∨
    ∃ (o : Obj) (its : Array Value) (n : Nat), K.lookup a = some o ∧ o.cls = .type "tuple" ∧ o.dict = none ∧ o.data = .seq its n ∧ its.size ≤ sizeLine ∧ Vals xs its.toList
theorem PlT.sqt {K : PySem.W.Frag} {G : Hp} {a : Addr} {xs : List V} (h : PlT K G a xs) : SqT K G a xs := by
  rcases h with ⟨o, h, _⟩ | ⟨o, its, n, h1, h2, _, h3, h4, h5⟩
  · exact .inl (.inr ⟨o, h⟩)
  · exact .inr ⟨o, its, n, h1, h2, h3, h4, h5⟩

/-- what stands at a: an error object of the class at C, its dict d -/
def ErrH (C : Addr) (d : Option Addr) (a : Addr) (o : HO) : Prop := ∀ (P : Program) (w : World) (H : Hp) (h : Heap), ObjOk P w H h a o → ∃ (oe : Obj) (vs : Array Value), h.get? a = some oe ∧ Zc (.ref C) d oe ∧ oe.data = .fields vs
/-- .. and an error's dict -/
def XdH (ps : List (Str × V)) (d : Addr) (o : HO) : Prop := ∀ (P : Program) (w : World) (H : Hp) (h : Heap), ObjOk P w H h d o → ∃ mA, h.Ns1 d mA ∧ ∀ f, RelO (ps.lookup f) (mA f)
mutual
/-- the value v is the data d, over the heap's part G -/
def Rep (K : PySem.W.Frag) (G : Hp) : D → V → Prop
  | .non, v => v = .non
  | .bl b, v => v = .bl b
  | .int i, v => v = .int i
  | .str x, v => v = .str x
  | .obj u, v => v = u
  | .tup ds, v => ∃ a vs, v = .ref a ∧ G a = some (.tup vs) ∧ RepL K G ds vs
  | .con ds, v => ∃ a vs, v = .ref a ∧ PlT K G a vs ∧ RepL K G ds vs
  | .lst ds, v => ∃ a vs, v = .ref a ∧ SqL K G a vs ∧ RepL K G ds vs
  | .dct t kvs, v => ∃ a, v = .ref a ∧ ((t = false ∧ ∃ od ps, G a = some (.frz od (.dK ps)) ∧ kvs.map (·.1) = ps.map (fun p => keyD p.1) ∧ RepV K G kvs (ps.map (·.2))) ∨
      (t = true ∧ ∃ od ps, G a = some (.frz od (.dT ps)) ∧ kvs.map (·.1) = ps.map (fun p => keyT p.1) ∧ RepV K G kvs (ps.map (·.2))))
  | .err c kvs, v => ∃ a C, v = .ref a ∧ PySem.W.nsIn K mainGlobals (Str.ofString c) = some (some (.ref C)) ∧ ((kvs = [] ∧ ∃ o, G a = some o ∧ ErrH C none a o) ∨
      ∃ dd ps o o2, G a = some o ∧ ErrH C (some dd) a o ∧ G dd = some o2 ∧ XdH ps dd o2 ∧ kvs.map (·.1) = ps.map (fun p => D.str p.1) ∧ RepV K G kvs (ps.map (·.2)))
  | .exn a d kvs, v => v = .ref a ∧ ∃ ps, G d = some (.xd ps) ∧ kvs.map (·.1) = ps.map (fun p => D.str p.1) ∧ RepV K G kvs (ps.map (·.2))
def RepL (K : PySem.W.Frag) (G : Hp) : List D → List V → Prop
  | [], vs => vs = []
  | d :: ds, vs => ∃ v r, vs = v :: r ∧ Rep K G d v ∧ RepL K G ds r
def RepV (K : PySem.W.Frag) (G : Hp) : List (D × D) → List V → Prop
  | [], vs => vs = []
  | (_, d) :: r, vs => ∃ v r', vs = v :: r' ∧ Rep K G d v ∧ RepV K G r r'
end

/-- the part G lies in H -/
def Sub (G H : Hp) : Prop := ∀ b o, G b = some o → H b = some o
theorem Sub.refl (H : Hp) : Sub H H := fun _ _ e => e
theorem Sub.trans {A B C : Hp} (h : Sub A B) (k : Sub B C) : Sub A C := fun b o e => k b o (h b o e)
theorem Sub.rd {G H : Hp} (h : Sub G H) {a : Addr} {u : HO} (r : Rd G a u) : Rd H a u := by
  rcases r with r | ⟨o, r⟩
  · exact .inl (h _ _ r)
  · exact .inr ⟨o, h _ _ r⟩
theorem Sub.sql {K : PySem.W.Frag} {G H : Hp} (h : Sub G H) {a : Addr} {xs : List V} (r : SqL K G a xs) : SqL K H a xs := by
  rcases r with r | r
  · exact .inl (h.rd r)
  · exact .inr r
theorem Sub.sqt {K : PySem.W.Frag} {G H : Hp} (h : Sub G H) {a : Addr} {xs : List V} (r : SqT K G a xs) : SqT K H a xs := by
  rcases r with r | r
  · exact .inl (h.rd r)
  · exact .inr r
theorem Sub.plt {K : PySem.W.Frag} {G H : Hp} (h : Sub G H) {a : Addr} {xs : List V} (r : PlT K G a xs) : PlT K H a xs := by
  rcases r with ⟨o, r, d⟩ | r
  · exact .inl ⟨o, h _ _ r, d⟩
  · exact .inr r
theorem Sub.pt {K : PySem.W.Frag} {G H : Hp} (h : Sub G H) {a : Addr} {xs : List V} (r : G a = some (.tup xs)) : SqT K H a xs := SqT.of (h a _ r)
theorem Sub.upd {H : Hp} {a : Addr} {o : HO} (h : H a = none) : Sub H (upd H a o) := fun b u e => by
  rw [upd_ne (ne_of_none e h)]; exact e
theorem Sub.free {G H : Hp} (h : Sub G H) {a : Addr} (e : H a = none) : G a = none := by
  cases q : G a with
  | none => rfl
  | some o => rw [h _ _ q] at e; cases e

mutual
theorem Rep.mono {K : PySem.W.Frag} {G H : Hp} (h : Sub G H) : ∀ {d : D} {v : V}, Rep K G d v → Rep K H d v
  | .non, _, e => e
  | .bl _, _, e => e
  | .int _, _, e => e
  | .str _, _, e => e
  | .obj _, _, e => e
  | .tup _, _, ⟨a, vs, e, s, r⟩ => ⟨a, vs, e, h a _ s, RepL.mono h r⟩
  | .con _, _, ⟨a, vs, e, s, r⟩ => ⟨a, vs, e, h.plt s, RepL.mono h r⟩
  | .lst _, _, ⟨a, vs, e, s, r⟩ => ⟨a, vs, e, h.sql s, RepL.mono h r⟩
  | .dct _ _, _, ⟨a, e, .inl ⟨t0, od, ps, s, k, r⟩⟩ => ⟨a, e, .inl ⟨t0, od, ps, h a _ s, k, RepV.mono h r⟩⟩
  | .dct _ _, _, ⟨a, e, .inr ⟨t0, od, ps, s, k, r⟩⟩ => ⟨a, e, .inr ⟨t0, od, ps, h a _ s, k, RepV.mono h r⟩⟩
  | .exn _ _ _, _, ⟨e, ps, s, k, r⟩ => ⟨e, ps, h _ _ s, k, RepV.mono h r⟩
  | .err _ _, _, ⟨a, C, e, n, .inl ⟨k, o, s, z⟩⟩ => ⟨a, C, e, n, .inl ⟨k, o, h a _ s, z⟩⟩
  | .err _ _, _, ⟨a, C, e, n, .inr ⟨dd, ps, o, o2, s, z, s2, z2, k, r⟩⟩ => ⟨a, C, e, n, .inr ⟨dd, ps, o, o2, h a _ s, z, h dd _ s2, z2, k, RepV.mono h r⟩⟩
theorem RepL.mono {K : PySem.W.Frag} {G H : Hp} (h : Sub G H) : ∀ {ds : List D} {vs : List V}, RepL K G ds vs → RepL K H ds vs
  | [], _, e => e
  | _ :: _, _, ⟨v, r, e, x, y⟩ => ⟨v, r, e, Rep.mono h x, RepL.mono h y⟩
theorem RepV.mono {K : PySem.W.Frag} {G H : Hp} (h : Sub G H) : ∀ {ds : List (D × D)} {vs : List V}, RepV K G ds vs → RepV K H ds vs
  | [], _, e => e
  | (_, _) :: _, _, ⟨v, r, e, x, y⟩ => ⟨v, r, e, Rep.mono h x, RepV.mono h y⟩
end

section
variable {K : PySem.W.Frag} {G : Hp}
theorem RepL.nil : RepL K G [] [] := rfl
theorem RepL.cons {d : D} {v : V} {ds : List D} {vs : List V} (h : Rep K G d v) (t : RepL K G ds vs) : RepL K G (d :: ds) (v :: vs) := ⟨v, vs, rfl, h, t⟩
theorem RepL.length : ∀ {ds : List D} {vs : List V}, RepL K G ds vs → vs.length = ds.length
  | [], _, e => by rw [show _ = [] from e]; rfl
  | _ :: _, _, ⟨v, r, e, x, y⟩ => by rw [e, List.length_cons, List.length_cons, RepL.length y]
theorem RepL.get : ∀ {ds : List D} {vs : List V} {i : Nat} {d : D}, RepL K G ds vs → ds[i]? = some d → ∃ v, vs[i]? = some v ∧ Rep K G d v
  | _ :: _, _, 0, _, ⟨v, r, e, x, y⟩, h => by cases h; exact ⟨v, by rw [e]; rfl, x⟩
  | _ :: _, _, i + 1, d, ⟨v, r, e, x, y⟩, h => by
    obtain ⟨w, h1, h2⟩ := RepL.get (i := i) (d := d) y (by simpa using h)
    exact ⟨w, by rw [e]; simpa using h1, h2⟩
theorem RepL.get' : ∀ {ds : List D} {vs : List V} {i : Nat} {v : V}, RepL K G ds vs → vs[i]? = some v → ∃ d, ds[i]? = some d ∧ Rep K G d v
  | [], _, i, v, e, h => by rw [show _ = [] from e] at h; simp at h
  | d :: _, _, 0, v, ⟨w, r, e, x, y⟩, h => by rw [e] at h; cases h; exact ⟨d, rfl, x⟩
  | _ :: _, _, i + 1, v, ⟨w, r, e, x, y⟩, h => by
    rw [e] at h
    obtain ⟨d, h1, h2⟩ := RepL.get' (i := i) (v := v) y (by simpa using h)
    exact ⟨d, by simpa using h1, h2⟩
theorem RepL.append : ∀ {ds es : List D} {vs ws : List V}, RepL K G ds vs → RepL K G es ws → RepL K G (ds ++ es) (vs ++ ws)
  | [], _, _, _, e, t => by rw [show _ = [] from e]; exact t
  | _ :: _, _, _, _, ⟨v, r, e, x, y⟩, t => by rw [e]; exact ⟨v, _, rfl, x, RepL.append y t⟩
theorem RepL.drop : ∀ {ds : List D} {vs : List V} (n : Nat), RepL K G ds vs → RepL K G (ds.drop n) (vs.drop n)
  | _, _, 0, h => h
  | [], _, n + 1, e => by rw [show _ = [] from e]; rfl
  | _ :: _, _, n + 1, ⟨v, r, e, x, y⟩ => by rw [e]; exact RepL.drop n y
theorem RepL.take : ∀ {ds : List D} {vs : List V} (n : Nat), RepL K G ds vs → RepL K G (ds.take n) (vs.take n)
  | _, _, 0, h => rfl
  | [], _, n + 1, e => by rw [show _ = [] from e]; rfl
  | _ :: _, _, n + 1, ⟨v, r, e, x, y⟩ => by rw [e]; exact ⟨v, _, rfl, x, RepL.take n y⟩
theorem RepL.set {d : D} {v : V} (h : Rep K G d v) : ∀ {ds : List D} {vs : List V} (n : Nat), RepL K G ds vs → RepL K G (ds.set n d) (vs.set n v)
  | [], _, n, e => by rw [show _ = [] from e]; rfl
  | _ :: _, _, 0, ⟨w, r, e, x, y⟩ => by rw [e]; exact ⟨v, r, rfl, h, y⟩
  | _ :: _, _, n + 1, ⟨w, r, e, x, y⟩ => by rw [e]; exact ⟨w, _, rfl, x, RepL.set h n y⟩
theorem RepL.reverse : ∀ {ds : List D} {vs : List V}, RepL K G ds vs → RepL K G ds.reverse vs.reverse
  | [], _, e => by rw [show _ = [] from e]; rfl
  | _ :: _, _, ⟨w, r, e, x, y⟩ => by rw [e, List.reverse_cons, List.reverse_cons]; exact RepL.append (RepL.reverse y) ⟨w, [], rfl, x, rfl⟩
theorem RepL.ints : ∀ {ns : List Int} {vs : List V}, RepL K G (ns.map D.int) vs → vs = ns.map V.int
  | [], _, e => e
  | _ :: _, _, ⟨v, r, e, x, y⟩ => by rw [e, show v = _ from x, RepL.ints y]; rfl
theorem RepL.of_ints : ∀ (ns : List Int), RepL K G (ns.map D.int) (ns.map V.int)
  | [] => rfl
  | n :: ns => ⟨_, _, rfl, rfl, RepL.of_ints ns⟩
theorem Rep.tup {a : Addr} {ds : List D} {vs : List V} (h : G a = some (.tup vs)) (r : RepL K G ds vs) : Rep K G (.tup ds) (.ref a) := ⟨a, vs, rfl, h, r⟩
theorem Rep.lst {a : Addr} {ds : List D} {vs : List V} (h : SqL K G a vs) (r : RepL K G ds vs) : Rep K G (.lst ds) (.ref a) := ⟨a, vs, rfl, h, r⟩
end

def D.isDct : D → Bool
  | .dct _ _ => true
  | _ => false
/-- a value whose outer list or dict is read in H, its items in G -/
def RepC (K : PySem.W.Frag) (H G : Hp) : D → V → Prop
  | .lst ds, v => ∃ a vs, v = .ref a ∧ SqL K H a vs ∧ RepL K G ds vs
  | .dct t kvs, v => ∃ a, v = .ref a ∧ ((t = false ∧ ∃ ps, Rd H a (.dK ps) ∧ kvs.map (·.1) = ps.map (fun p => keyD p.1) ∧ RepV K G kvs (ps.map (·.2))) ∨
      (t = true ∧ ∃ ps, Rd H a (.dT ps) ∧ kvs.map (·.1) = ps.map (fun p => keyT p.1) ∧ RepV K G kvs (ps.map (·.2))))
  | d, v => Rep K G d v
theorem Rep.c {K : PySem.W.Frag} {G H : Hp} (h : Sub G H) : ∀ {d : D} {v : V}, Rep K G d v → RepC K H G d v
  | .non, _, e => e
  | .bl _, _, e => e
  | .int _, _, e => e
  | .str _, _, e => e
  | .obj _, _, e => e
  | .tup _, _, e => e
  | .con _, _, e => e
  | .lst _, _, ⟨a, vs, e, s, r⟩ => ⟨a, vs, e, h.sql s, r⟩
  | .dct _ _, _, ⟨a, e, .inl ⟨t0, od, ps, s, k, r⟩⟩ => ⟨a, e, .inl ⟨t0, ps, .inr ⟨od, h a _ s⟩, k, r⟩⟩
  | .dct _ _, _, ⟨a, e, .inr ⟨t0, od, ps, s, k, r⟩⟩ => ⟨a, e, .inr ⟨t0, ps, .inr ⟨od, h a _ s⟩, k, r⟩⟩
  | .err _ _, _, e => e
  | .exn _ _ _, _, e => e
theorem RepC.all {K : PySem.W.Frag} {G H : Hp} (h : Sub G H) : ∀ {d : D} {v : V}, RepC K H G d v → d.isDct = false → Rep K H d v
  | .non, _, e, _ => e
  | .bl _, _, e, _ => e
  | .int _, _, e, _ => e
  | .str _, _, e, _ => e
  | .obj _, _, e, _ => e
  | .tup _, _, e, _ => Rep.mono h e
  | .con _, _, e, _ => Rep.mono h e
  | .lst _, _, ⟨a, vs, e, s, r⟩, _ => ⟨a, vs, e, s, RepL.mono h r⟩
  | .dct _ _, _, _, n => by cases n
  | .err _ _, _, e, _ => Rep.mono h e
  | .exn _ _ _, _, e, _ => Rep.mono h e
theorem RepC.mono {K : PySem.W.Frag} {G H G' H' : Hp} (h : Sub H H') (g : Sub G G') : ∀ {d : D} {v : V}, RepC K H G d v → RepC K H' G' d v
  | .non, _, e => e
  | .bl _, _, e => e
  | .int _, _, e => e
  | .str _, _, e => e
  | .obj _, _, e => e
  | .tup _, _, e => Rep.mono g e
  | .con _, _, e => Rep.mono g e
  | .lst _, _, ⟨a, vs, e, s, r⟩ => ⟨a, vs, e, h.sql s, RepL.mono g r⟩
  | .dct _ _, _, ⟨a, e, .inl ⟨t0, ps, s, k, r⟩⟩ => ⟨a, e, .inl ⟨t0, ps, h.rd s, k, RepV.mono g r⟩⟩
  | .dct _ _, _, ⟨a, e, .inr ⟨t0, ps, s, k, r⟩⟩ => ⟨a, e, .inr ⟨t0, ps, h.rd s, k, RepV.mono g r⟩⟩
  | .err _ _, _, e => Rep.mono g e
  | .exn _ _ _, _, e => Rep.mono g e

/-- at a stands the list or dict d, that can be changed; its items in G -/
def OwnC (K : PySem.W.Frag) (H G : Hp) : D → Addr → Prop
  | .lst ds, a => ∃ vs, H a = some (.lst vs) ∧ RepL K G ds vs
  | .dct t kvs, a => (t = false ∧ ∃ ps, H a = some (.dK ps) ∧ kvs.map (·.1) = ps.map (fun p => keyD p.1) ∧ RepV K G kvs (ps.map (·.2))) ∨
      (t = true ∧ ∃ ps, H a = some (.dT ps) ∧ kvs.map (·.1) = ps.map (fun p => keyT p.1) ∧ RepV K G kvs (ps.map (·.2)))
  | _, _ => False
theorem OwnC.c {K : PySem.W.Frag} {H G : Hp} {d : D} {a : Addr} (h : OwnC K H G d a) : RepC K H G d (.ref a) := by
  cases d with
  | lst ds => obtain ⟨vs, e, r⟩ := h; exact ⟨a, vs, rfl, SqL.of e, r⟩
  | dct t kvs =>
    rcases h with ⟨t0, ps, e, k, r⟩ | ⟨t0, ps, e, k, r⟩
    · exact ⟨a, rfl, .inl ⟨t0, ps, .inl e, k, r⟩⟩
    · exact ⟨a, rfl, .inr ⟨t0, ps, .inl e, k, r⟩⟩
  | _ => exact h.elim
theorem OwnC.is {K : PySem.W.Frag} {H G : Hp} {d : D} {a : Addr} (h : OwnC K H G d a) : H a ≠ none := by
  cases d with
  | lst ds => obtain ⟨vs, e, r⟩ := h; rw [e]; simp
  | dct t kvs => rcases h with ⟨t0, ps, e, k, r⟩ | ⟨t0, ps, e, k, r⟩ <;> rw [e] <;> simp
  | _ => exact h.elim
theorem OwnC.mono' {K : PySem.W.Frag} {H H' G G' : Hp} {d : D} {a : Addr} (h : OwnC K H G d a) (e' : ∀ o, H a = some o → H' a = some o) (sg : Sub G G') : OwnC K H' G' d a := by
  cases d with
  | lst ds => obtain ⟨vs, e, r⟩ := h; exact ⟨vs, e' _ e, r.mono sg⟩
  | dct t kvs =>
    rcases h with ⟨t0, ps, e, k, r⟩ | ⟨t0, ps, e, k, r⟩
    · exact .inl ⟨t0, ps, e' _ e, k, r.mono sg⟩
    · exact .inr ⟨t0, ps, e' _ e, k, r.mono sg⟩
  | _ => exact h.elim
theorem OwnC.mono {K : PySem.W.Frag} {H H' G G' : Hp} {d : D} {a : Addr} (h : OwnC K H G d a) (sh : Sub H H') (sg : Sub G G') : OwnC K H' G' d a := h.mono' (fun o => sh a o) sg
theorem OwnC.put {K : PySem.W.Frag} {H G G' : Hp} {d : D} {a : Addr} (h : OwnC K H G d a) (nd : d.isDct = false) (sg : Sub G G') (e' : G' a = H a) : Rep K G' d (.ref a) := by
  cases d with
  | lst ds => obtain ⟨vs, e, r⟩ := h; exact ⟨a, vs, rfl, SqL.of (e'.trans e), r.mono sg⟩
  | dct t kvs => cases nd
  | _ => exact h.elim
/-- a dict that is locked is all men's -/
theorem OwnC.lock {K : PySem.W.Frag} {H G G' : Hp} {d : D} {a : Addr} (h : OwnC K H G d a) (nd : d.isDct = true) (sg : Sub G G') : ∃ u, H a = some u ∧ Mut (some u) ∧ ∀ od, G' a = some (.frz od u) → Rep K G' d (.ref a) := by
  cases d with
  | dct t kvs =>
    rcases h with ⟨t0, ps, e, k, r⟩ | ⟨t0, ps, e, k, r⟩
    · exact ⟨_, e, trivial, fun od q => ⟨a, rfl, .inl ⟨t0, od, ps, q, k, r.mono sg⟩⟩⟩
    · exact ⟨_, e, trivial, fun od q => ⟨a, rfl, .inr ⟨t0, od, ps, q, k, r.mono sg⟩⟩⟩
  | _ => cases nd
/-- things are locked, then P -/
inductive LockT (P : Hp → Prop) : Hp → Prop where
  | here {H : Hp} (h : P H) : LockT P H
  | lock {H : Hp} {d : Addr} {u : HO} (h : H d = some u) (mu : Mut (some u)) (k : ∀ od, LockT P (upd H d (.frz od u))) : LockT P H
theorem LockT.imp {P Q : Hp → Prop} {H : Hp} (h : LockT P H) (f : ∀ H, P H → Q H) : LockT Q H := by
  induction h with
  | here h => exact .here (f _ h)
  | lock h mu _ ih => exact .lock h mu ih
theorem LockT.bind {P Q : Hp → Prop} {H : Hp} (h : LockT P H) (f : ∀ H, P H → LockT Q H) : LockT Q H := by
  induction h with
  | here h => exact f _ h
  | lock h mu _ ih => exact .lock h mu ih
theorem LockT.inv {X : Cx} {pins : List (Addr × Obj)} {σ : L2.St} {s : Shared} {P : Hp → Prop} {H : Hp} (h : LockT P H) (I : Inv X pins σ H s) : ∃ H', Inv X pins σ H' s ∧ P H' := by
  induction h with
  | here h => exact ⟨_, I, h⟩
  | lock h mu _ ih =>
    obtain ⟨od, I1⟩ := I.lock h mu
    exact ih od I1
theorem _root_.L2.PE.lk {X : Cx} {e : Expr} {t t' : TE} (h : PE X e t) (f : ∀ σ H Q, t' σ H Q → LockT (fun H => t σ H Q) H) : PE X e t' := ⟨fun pins s σ H Q I q => by
  obtain ⟨H', I', q'⟩ := (f σ H Q q).inv I
  exact h.run pins s σ H' Q I' q'⟩
theorem _root_.L2.PE.lkP {X : Cx} {e : Expr} {t t' : TE} (h : PE X e t) (f : ∀ σ H Q, t' σ H Q → t σ H fun v H => LockT (Q v) H) : PE X e t' := ⟨fun pins s σ H Q I q =>
  thn (h.run pins s σ H _ I (f σ H Q q)) fun v s1 ⟨x, H1, I1, r, q⟩ => by
    obtain ⟨H2, I2, q2⟩ := q.inv I1
    exact ⟨x, H2, I2, r, q2⟩⟩
theorem _root_.L2.PS.lk {X : Cx} {e : Stmt} {t t' : TS} (h : PS X e t) (f : ∀ D σ H, t' D σ H → LockT (t D σ) H) : PS X e t' := ⟨fun pins s σ H D I q => by
  obtain ⟨H', I', q'⟩ := (f D σ H q).inv I
  exact h.run pins s σ H' D I' q'⟩
theorem _root_.L2.PSs.lk {X : Cx} {e : List Stmt} {t t' : TS} (h : PSs X e t) (f : ∀ D σ H, t' D σ H → LockT (t D σ) H) : PSs X e t' := ⟨fun pins s σ H D I q => by
  obtain ⟨H', I', q'⟩ := (f D σ H q).inv I
  exact h.run pins s σ H' D I' q'⟩
/-- .. what is given back is locked -/
theorem _root_.L2.PSs.lkR {X : Cx} {e : List Stmt} {t t' : TS} (h : PSs X e t) (f : ∀ D σ H, t' D σ H → t { D with rt := fun v H => LockT (D.rt v) H } σ H) : PSs X e t' := ⟨fun pins s σ H D I q =>
  thn (h.run pins s σ H _ I (f D σ H q)) fun fl s1 q => by
    cases fl with
    | next => exact q
    | brk => exact q
    | cont => exact q
    | ret v =>
      obtain ⟨x, σ', H', I2, r, q⟩ := q
      obtain ⟨H2, I3, q2⟩ := q.inv I2
      exact ⟨x, σ', H2, I3, r, q2⟩⟩

/-- where nothing stood, or a tuple -/
def Fr1 (H : Hp) (b : Addr) : Prop := H b = none ∨ ∃ vs, H b = some (.tup vs)
theorem Fr1.back {H H1 : Hp} {b : Addr} (s : Sub H H1) (h : Fr1 H1 b) : Fr1 H b := by
  cases q : H b with
  | none => exact .inl q
  | some o =>
    have := s _ _ q
    rcases h with h | ⟨vs, h⟩
    · rw [h] at this; cases this
    · rw [h] at this; cases this; exact .inr ⟨vs, q⟩
theorem OwnC.nfr {K : PySem.W.Frag} {H G : Hp} {d : D} {a : Addr} (h : OwnC K H G d a) : ¬ Fr1 H a := by
  intro z
  cases d with
  | lst ds =>
    obtain ⟨vs, e, r⟩ := h
    rcases z with z | ⟨ws, z⟩ <;> rw [e] at z <;> cases z
  | dct t kvs => rcases h with ⟨t0, ps, e, k, r⟩ | ⟨t0, ps, e, k, r⟩ <;> rcases z with z | ⟨ws, z⟩ <;> rw [e] at z <;> cases z
  | _ => exact h.elim
/-- behind a step: H to H', the part G to G' -/
structure Ext (H G H' G' : Hp) : Prop where
  hh : Sub H H'
  gg : Sub G G'
  gh : Sub G' H'
  new : ∀ b, G' b ≠ none → G b ≠ none ∨ Fr1 H b
theorem Ext.refl {H G : Hp} (g : Sub G H) : Ext H G H G := ⟨Sub.refl H, Sub.refl G, g, fun _ h => .inl h⟩
theorem Ext.trans {H G H1 G1 H2 G2 : Hp} (a : Ext H G H1 G1) (b : Ext H1 G1 H2 G2) : Ext H G H2 G2 :=
  ⟨a.hh.trans b.hh, a.gg.trans b.gg, b.gh, fun c h => by
    rcases b.new c h with z | z
    · exact a.new c z
    · exact .inr (z.back a.hh)⟩
/-- a new object that all may know -/
theorem Ext.laid {H G : Hp} {p : Addr} {o : HO} (g : Sub G H) (n : H p = none) : Ext H G (upd H p o) (upd G p o) :=
  ⟨Sub.upd n, Sub.upd (g.free n), fun b u e => by
    by_cases hb : b = p
    · subst hb; rw [upd_same] at e ⊢; exact e
    · rw [upd_ne hb] at e ⊢; exact g _ _ e, fun b h => by
    by_cases hb : b = p
    · subst hb; exact .inr (.inl n)
    · rw [upd_ne hb] at h; exact .inl h⟩

/-! ### exceptions -/
/-- which class value a class's name has; its fields' values -/
structure ExcKit where
  mg : Str → Option Value
def IsExc (K : PySem.W.Frag) (mg : Str → Option Value) (c : String) (fs : List (D × D)) (cls : Value) (o : Option Addr) (H₀ H : Hp) : Prop :=
  mg (Str.ofString c) = some cls ∧ match o with
    | none => fs = []
    | some d => fs ≠ [] ∧ H₀ d = none ∧ ∃ ps, H d = some (.xd ps) ∧ fs.map (·.1) = ps.map (fun p => D.str p.1) ∧ RepV K H fs (ps.map (·.2))

theorem IsExc.back {K : PySem.W.Frag} {mg : Str → Option Value} {c : String} {fs : List (D × D)} {cls : Value} {o : Option Addr} {A B H : Hp} (s : Sub A B) (h : IsExc K mg c fs cls o B H) : IsExc K mg c fs cls o A H := by
  refine ⟨h.1, ?_⟩
  cases o with
  | none => exact h.2
  | some d => exact ⟨h.2.1, s.free h.2.2.1, h.2.2.2⟩

/-! ### names -/
abbrev Sl := Option (D × Bool)
abbrev Env := List Sl
/-- the names' values, as a reckoning sees them: those at A may be kept -/
structure EnvG (K : PySem.W.Frag) (A : Nat → Prop) (σ : L2.St) (e : Env) (H G : Hp) : Prop where
  sub : Sub G H
  len : σ.length = e.length
  val : ∀ i d o, e[i]? = some (some (d, o)) → ∃ v, σ[i]? = some (some v) ∧ (A i ∨ o = false → Rep K G d v) ∧ RepC K H G d v
theorem EnvG.ext {K : PySem.W.Frag} {A : Nat → Prop} {σ : L2.St} {e : Env} {H G H' G' : Hp} (h : EnvG K A σ e H G) (x : Ext H G H' G') : EnvG K A σ e H' G' :=
  ⟨x.gh, h.len, fun i d o hi => let ⟨v, h1, h2, h3⟩ := h.val i d o hi; ⟨v, h1, fun z => (h2 z).mono x.gg, h3.mono x.hh x.gg⟩⟩

/-- what is wanted behind a reckoning -/
def PostG (K : PySem.W.Frag) (mg : Str → Option Value) (W : Value → Option Addr → Hp → Prop) (H G : Hp) {α : Type} (r : Res α) (R : α → Hp → Hp → Prop) : Prop := match r with
  | .ok a => ∀ H' G', Ext H G H' G' → R a H' G'
  | .exc c fs => ∀ cls o H', Sub H H' → IsExc K mg c fs cls o H H' → W cls o H'
  | .bad => False
section
variable {K : PySem.W.Frag} {mg : Str → Option Value} {W : Value → Option Addr → Hp → Prop} {H G H' G' : Hp} {α β : Type}
theorem PostG.ext {r : Res α} {R : α → Hp → Hp → Prop} (h : PostG K mg W H G r R) (x : Ext H G H' G') : PostG K mg W H' G' r R := by
  cases r with
  | ok a => exact fun H2 G2 y => h H2 G2 (x.trans y)
  | exc c fs => exact fun cls o H2 y z => h cls o H2 (x.hh.trans y) (z.back x.hh)
  | bad => exact h
theorem PostG.imp {r : Res α} {R R' : α → Hp → Hp → Prop} (h : PostG K mg W H G r R) (f : ∀ a H' G', Ext H G H' G' → R a H' G' → R' a H' G') : PostG K mg W H G r R' := by
  cases r with
  | ok a => exact fun H2 G2 y => f a H2 G2 y (h H2 G2 y)
  | exc c fs => exact h
  | bad => exact h
theorem PostG.split {r : Res α} {f : α → Res β} {R : β → Hp → Hp → Prop} (h : PostG K mg W H G (r.bind f) R) : PostG K mg W H G r fun a H1 G1 => PostG K mg W H1 G1 (f a) R := by
  cases r with
  | ok a => exact fun H2 G2 y => PostG.ext (r := f a) h y
  | exc c fs => exact h
  | bad => exact h
theorem PostG.val {d : D} {Q : VK} (h : PostG K mg W H G (Res.ok d) fun d H' G' => ∀ v, Rep K G' d v → Q v H') (g : Sub G H) {v : V} (r : Rep K G d v) : Q v H := h H G (Ext.refl g) v r
theorem PostG.here {a : α} {R : α → Hp → Hp → Prop} (h : PostG K mg W H G (.ok a) R) (g : Sub G H) : R a H G := h H G (Ext.refl g)
end

theorem _root_.L2.PE.imp {X : Cx} {e : Expr} {t t' : TE} (h : PE X e t) (f : ∀ σ H Q, t' σ H Q → t σ H Q) : PE X e t' := ⟨fun pins s σ H Q I q => h.run pins s σ H Q I (f σ H Q q)⟩
theorem _root_.L2.PA.imp {X : Cx} {e : List Expr} {t t' : TA} (h : PA X e t) (f : ∀ σ H Q, t' σ H Q → t σ H Q) : PA X e t' := ⟨fun pos pins s σ H Q I q => h.run pos pins s σ H Q I (f σ H Q q)⟩
theorem _root_.L2.PT.imp {X : Cx} {e : Expr} {t t' : TT} (h : PT X e t) (f : ∀ σ H Q, t' σ H Q → t σ H Q) : PT X e t' := ⟨fun pins s σ H Q I q => h.run pins s σ H Q I (f σ H Q q)⟩
theorem _root_.L2.PW.imp {X : Cx} {e : Expr} {t t' : TT} (h : PW X e t) (f : ∀ σ H Q, t' σ H Q → t σ H Q) : PW X e t' := ⟨fun wh pins s σ H Q I q => h.run wh pins s σ H Q I (f σ H Q q)⟩
theorem _root_.L2.PS.imp {X : Cx} {e : Stmt} {t t' : TS} (h : PS X e t) (f : ∀ D σ H, t' D σ H → t D σ H) : PS X e t' := ⟨fun pins s σ H D I q => h.run pins s σ H D I (f D σ H q)⟩
theorem _root_.L2.PSs.imp {X : Cx} {e : List Stmt} {t t' : TS} (h : PSs X e t) (f : ∀ D σ H, t' D σ H → t D σ H) : PSs X e t' := ⟨fun pins s σ H D I q => h.run pins s σ H D I (f D σ H q)⟩
theorem _root_.L2.PI.imp {X : Cx} {tg e : Expr} {t t' : TI} (h : PI X tg e t) (f : ∀ σ H Q, t' σ H Q → t σ H Q) : PI X tg e t' := ⟨fun pins s σ H Q I q => h.run pins s σ H Q I (f σ H Q q)⟩

/-! ### the readings -/
section
variable (K : PySem.W.Frag) (mg : Str → Option Value) (W : WX) (A : Nat → Prop)
/-- a reckoning's value, kept by whoever has it -/
def tD (f : Env → Res D) : TE := fun σ H Q => ∃ e G, EnvG K A σ e H G ∧ PostG K mg (fun c o H' => W c o σ H') H G (f e) fun d H' G' => ∀ v, Rep K G' d v → Q v H'
/-- .. read alone -/
def tR (f : Env → Res D) : TE := fun σ H Q => ∃ e G, EnvG K A σ e H G ∧ PostG K mg (fun c o H' => W c o σ H') H G (f e) fun d H' G' => ∀ v, RepC K H' G' d v → Q v H'
/-- .. new, and of none else -/
def tF (f : Env → Res D) : TE := fun σ H Q => ∃ e G, EnvG K A σ e H G ∧ PostG K mg (fun c o H' => W c o σ H') H G (f e) fun d H' G' => ∀ a, H a = none → G' a = none → OwnC K H' G' d a → Q (.ref a) H'
def tDs (f : Env → Res (List D)) : TA := fun σ H Q => ∃ e G, EnvG K A σ e H G ∧ PostG K mg (fun c o H' => W c o σ H') H G (f e) fun ds H' G' => ∀ vs, RepL K G' ds vs → Q vs H'
def tT (f : Env → Res Bool) : TT := fun σ H Q => ∃ e G, EnvG K A σ e H G ∧ PostG K mg (fun c o H' => W c o σ H') H G (f e) fun b H' G' => Q b H'
end
section
variable {X : Cx} {W : WX} {A : Nat → Prop}
abbrev DE (X : Cx) (W : WX) (A : Nat → Prop) (ex : Expr) (f : Env → Res D) : Prop := PE X ex (tD X.K X.mg W A f)
abbrev DR (X : Cx) (W : WX) (A : Nat → Prop) (ex : Expr) (f : Env → Res D) : Prop := PE X ex (tR X.K X.mg W A f)
abbrev DF (X : Cx) (W : WX) (A : Nat → Prop) (ex : Expr) (f : Env → Res D) : Prop := PE X ex (tF X.K X.mg W A f)
abbrev DA (X : Cx) (W : WX) (A : Nat → Prop) (es : List Expr) (f : Env → Res (List D)) : Prop := PA X es (tDs X.K X.mg W A f)
abbrev DT (X : Cx) (W : WX) (A : Nat → Prop) (ex : Expr) (f : Env → Res Bool) : Prop := PT X ex (tT X.K X.mg W A f)
abbrev DW (X : Cx) (W : WX) (A : Nat → Prop) (ex : Expr) (f : Env → Res Bool) : Prop := PW X ex (tT X.K X.mg W A f)
/-- kept, so read -/
theorem dr {ex : Expr} {f : Env → Res D} (h : DE X W A ex f) : DR X W A ex f :=
  h.imp fun σ H Q ⟨e, G, E, p⟩ => ⟨e, G, E, p.imp fun d H' G' x q v r => q v (r.c x.gh)⟩
/-- new, so locked and all men's -/
theorem own_lock {K : PySem.W.Frag} {H G H' G' : Hp} {d : D} {a : Addr} (x : Ext H G H' G') (ha : H a = none) (ga : G' a = none) (rc : OwnC K H' G' d a) : LockT (fun H2 => ∃ G2, Ext H G H2 G2 ∧ Rep K G2 d (.ref a)) H' := by
  cases hd : d.isDct with
  | false =>
    have sg : Sub G' (fun b => if b = a then H' b else G' b) := fun b o q => by
      show (if b = a then H' b else G' b) = some o
      by_cases hb : b = a
      · subst hb; rw [ga] at q; cases q
      · rw [if_neg hb]; exact q
    have gaa : (fun b => if b = a then H' b else G' b : Hp) a = H' a := if_pos rfl
    refine .here ⟨fun b => if b = a then H' b else G' b, ⟨x.hh, x.gg.trans sg, fun b o q => ?_, fun b q => ?_⟩, rc.put hd sg gaa⟩
    · have q' : (if b = a then H' b else G' b) = some o := q
      by_cases hb : b = a
      · rw [if_pos hb] at q'; exact q'
      · rw [if_neg hb] at q'; exact x.gh _ _ q'
    · have q' : (if b = a then H' b else G' b) ≠ none := q
      by_cases hb : b = a
      · subst hb; exact .inr (.inl ha)
      · rw [if_neg hb] at q'; exact x.new b q'
  | true =>
    have sg : ∀ od u, Sub G' (upd G' a (.frz od u)) := fun od u => Sub.upd ga
    obtain ⟨u, hu, mu, _⟩ := rc.lock hd (Sub.refl G')
    refine .lock hu mu fun od => .here ⟨upd G' a (.frz od u), ⟨fun b o q => ?_, x.gg.trans (sg od u), fun b o q => ?_, fun b q => ?_⟩, ?_⟩
    · have nb : b ≠ a := fun z => by rw [z, ha] at q; cases q
      rw [upd_ne nb]; exact x.hh b o q
    · by_cases hb : b = a
      · subst hb; rw [upd_same] at q ⊢; exact q
      · rw [upd_ne hb] at q ⊢; exact x.gh b o q
    · by_cases hb : b = a
      · subst hb; exact .inr (.inl ha)
      · rw [upd_ne hb] at q; exact x.new b q
    · obtain ⟨u', hu', _, k⟩ := rc.lock hd (sg od u)
      rw [hu] at hu'; cases hu'
      exact k od upd_same
/-- new, so kept -/
theorem de_of {ex : Expr} {f : Env → Res D} (h : DF X W A ex f) : DE X W A ex f :=
  h.lkP fun σ H Q ⟨e, G, E, p⟩ => ⟨e, G, E, by
    cases hr : f e with
    | exc c fs => rw [hr] at p; exact p
    | bad => rw [hr] at p; exact p
    | ok d =>
      rw [hr] at p
      intro H' G' x a ha ga rc
      exact (own_lock x ha ga rc).imp fun H2 ⟨G2, y, r⟩ => p H2 G2 y (.ref a) r⟩

/-! ### names, constants -/
def eVar (i : Nat) : Env → Res D := fun e => match e[i]? with
  | some (some (d, _)) => .ok d
  | _ => .bad
def eC (d : D) : Env → Res D := fun _ => .ok d
theorem de_var {i : Nat} {x : Str} {pos : Pos} (hN : X.N[i]? = some x) (hv : Vis X.env.scope x) (hA : A i) (hd : (x == ("__debug__" : Str)) = false := by decide) (hcd : (x == ("__classdict__" : Str)) = false := by decide) : DE X W A (.Name x pos) (eVar i) :=
  (pe_var hN hv hd hcd).imp fun σ H Q ⟨e, G, E, p⟩ => by
    unfold eVar at p
    cases h : e[i]? with
    | none => rw [h] at p; exact p.elim
    | some s => cases s with
      | none => rw [h] at p; exact p.elim
      | some z =>
        obtain ⟨d, o⟩ := z
        rw [h] at p
        obtain ⟨v, h1, h2, h3⟩ := E.val i d o h
        exact ⟨v, h1, p.here E.sub v (h2 (.inl hA))⟩
/-- a name that is read alone -/
theorem dr_var {i : Nat} {x : Str} {pos : Pos} (hN : X.N[i]? = some x) (hv : Vis X.env.scope x) (hd : (x == ("__debug__" : Str)) = false := by decide) (hcd : (x == ("__classdict__" : Str)) = false := by decide) : DR X W A (.Name x pos) (eVar i) :=
  (pe_var hN hv hd hcd).imp fun σ H Q ⟨e, G, E, p⟩ => by
    unfold eVar at p
    cases h : e[i]? with
    | none => rw [h] at p; exact p.elim
    | some s => cases s with
      | none => rw [h] at p; exact p.elim
      | some z =>
        obtain ⟨d, o⟩ := z
        rw [h] at p
        obtain ⟨v, h1, h2, h3⟩ := E.val i d o h
        exact ⟨v, h1, p.here E.sub v h3⟩
theorem de_const {ex : Expr} {v : V} {d : D} (h : PE X ex (tC v)) (r : ∀ G, Rep X.K G d v) : DE X W A ex (eC d) :=
  h.imp fun σ H Q ⟨e, G, E, p⟩ => p.here E.sub v (r G)
theorem de_int {i j pos} : DE X W A (.Constant (.int i) j pos) (eC (.int i)) := de_const pe_int fun _ => rfl
theorem de_bl {b j pos} : DE X W A (.Constant (.bool b) j pos) (eC (.bl b)) := de_const pe_bl fun _ => rfl
theorem de_str {x j pos} : DE X W A (.Constant (.str x) j pos) (eC (.str x)) := de_const pe_str fun _ => rfl
/-- a module's constant -/
theorem de_glob {x : Str} {v : V} {u : Value} {d : D} {pos : Pos} (hg : Gl X x) (hm : X.mg x = some u) (r : RelV v u) (q : ∀ G, Rep X.K G d v) (hd : (x == ("__debug__" : Str)) = false := by decide) : DE X W A (.Name x pos) (eC d) :=
  de_const (pe_glob hg hm r hd) q

/-! ### operators on two values -/
def eOp (g : D → D → Res D) (fa fb : Env → Res D) : Env → Res D := fun e => (fa e).bind fun x => (fb e).bind fun y => g x y
/-- the operation f does on data what g says -/
def OpD (X : Cx) (W : WX) (f : Value → Value → Sem Value) (g : D → D → Res D) : Prop :=
  ∃ r, OpR X f r ∧ ∀ (σ : L2.St) (H G : Hp) (x y : V) (dx dy : D) (Q : VK), Sub G H → RepC X.K H G dx x → RepC X.K H G dy y →
    PostG X.K X.mg (fun c o H' => W c o σ H') H G (g dx dy) (fun d H' G' => ∀ v, Rep X.K G' d v → Q v H') → r x y H Q
theorem op_two {r : R2} {g : D → D → Res D} {fa fb : Env → Res D} {ta tb : TE} (hta : ta = tR X.K X.mg W A fa) (htb : tb = tR X.K X.mg W A fb)
    (h : ∀ (σ : L2.St) (H G : Hp) (x y : V) (dx dy : D) (Q : VK), Sub G H → RepC X.K H G dx x → RepC X.K H G dy y →
      PostG X.K X.mg (fun c o H' => W c o σ H') H G (g dx dy) (fun d H' G' => ∀ v, Rep X.K G' d v → Q v H') → r x y H Q) (σ : L2.St) (H : Hp) (Q : VK) (q : tD X.K X.mg W A (eOp g fa fb) σ H Q) : tOp r ta tb σ H Q := by
  subst hta htb
  obtain ⟨e, G, E, p⟩ := q
  refine ⟨e, G, E, p.split.imp fun dx H1 G1 x1 p1 v rv => ?_⟩
  refine ⟨e, G1, E.ext x1, p1.split.imp fun dy H2 G2 x2 p2 u ru => ?_⟩
  exact h σ H2 G2 v u dx dy Q x2.gh (rv.mono x2.hh x2.gg) ru p2
theorem de_bin {op : Operator} {a b : Expr} {fa fb : Env → Res D} {g : D → D → Res D} {pos : Pos} (ho : OpD X W (binaryOp op) g) (ha : DR X W A a fa) (hb : DR X W A b fb) : DE X W A (.BinOp a op b pos) (eOp g fa fb) := by
  obtain ⟨r, h1, h2⟩ := ho
  exact (pe_op h1 ha hb).imp (op_two rfl rfl h2)
theorem de_cmp {op : CmpOp} {a b : Expr} {fa fb : Env → Res D} {g : D → D → Res D} {pos : Pos} (ho : OpD X W (compareOp op) g) (ha : DR X W A a fa) (hb : DR X W A b fb) (hm : behindInMarks op b = false) : DE X W A (.Compare a [op] [b] pos) (eOp g fa fb) := by
  obtain ⟨r, h1, h2⟩ := ho
  exact (pe_cmpR h1 ha hb hm).imp (op_two rfl rfl h2)
end
end DL

namespace DL
open PySem PySem.Spec PyProof.Rows L2
open PySem.Builtin.Int (intBits)

/-! ### whole numbers -/
def big : Nat := 130000000
theorem mul_ok {i j : Int} (h : intBits i + intBits j ≤ big) : IntMulOk i j := by
  have e : bitsLine = 134217728 := by decide
  unfold IntMulOk
  intro z
  rw [Bool.and_eq_true] at z
  have z2 := z.2
  unfold Builtin.Int.intTooBig at z2
  have z3 := of_decide_eq_true z2
  rw [e] at z3
  have hb : big = 130000000 := rfl
  omega
section
variable {X : Cx} {W : WX}
/-- a rule for two values, where it is told of data -/
theorem OpD.or {f : Value → Value → Sem Value} {g1 g2 : D → D → Res D} (c : D → D → Bool) (h1 : OpD X W f g1) (h2 : OpD X W f g2) : OpD X W f fun x y => if c x y = true then g1 x y else g2 x y := by
  obtain ⟨r1, o1, q1⟩ := h1
  obtain ⟨r2, o2, q2⟩ := h2
  refine ⟨_, OpR.or o1 o2, fun σ H G x y dx dy Q sg rx ry p => ?_⟩
  dsimp only at p
  by_cases hc : c dx dy = true
  · rw [if_pos hc] at p; exact .inl (q1 σ H G x y dx dy Q sg rx ry p)
  · rw [if_neg hc] at p; exact .inr (q2 σ H G x y dx dy Q sg rx ry p)
theorem OpD.congr {f : Value → Value → Sem Value} {g1 g2 : D → D → Res D} (h : OpD X W f g1) (e : ∀ x y, g2 x y = .bad ∨ g2 x y = g1 x y) : OpD X W f g2 := by
  obtain ⟨r, o, q⟩ := h
  refine ⟨r, o, fun σ H G x y dx dy Q sg rx ry p => ?_⟩
  rcases e dx dy with z | z
  · rw [z] at p; exact p.elim
  · rw [z] at p; exact q σ H G x y dx dy Q sg rx ry p

/-- ints in, an int out -/
def gI (C : Int → Int → Bool) (g : Int → Int → Int) : D → D → Res D
  | .int i, .int j => if C i j = true then .ok (.int (g i j)) else .bad
  | _, _ => .bad
theorem od_I {f : Value → Value → Sem Value} {C : Int → Int → Bool} {g : Int → Int → Int}
    (rule : ∀ (i j : Int) (t u : Tok) (s : Shared) (Q : Value → Shared → Prop) (E : Value → Shared → Prop), C i j = true → Q (.int (g i j) s.toks) { s with toks := s.toks + 1 } → wpAny (model X.prog X.w) X.A (f (.int i t) (.int j u)) Q E s) :
    OpD X W f (gI C g) := by
  refine ⟨rI (fun i j => C i j = true) fun i j => .int (g i j), opI rule, fun σ H G x y dx dy Q sg rx ry p => ?_⟩
  cases dx with
  | int i =>
    cases dy with
    | int j =>
      have rx' : x = .int i := rx
      have ry' : y = .int j := ry
      dsimp only [gI] at p
      by_cases hc : C i j = true
      · rw [if_pos hc] at p
        exact ⟨i, j, rx', ry', hc, p.here sg _ rfl⟩
      · rw [if_neg hc] at p
        exact p.elim
    | _ => exact (show False from p).elim
  | _ => cases dy <;> exact (show False from p).elim
def cT : Int → Int → Bool := fun _ _ => true
def cMul : Int → Int → Bool := fun i j => decide (intBits i + intBits j ≤ big)
def cDiv : Int → Int → Bool := fun _ j => decide (j ≠ 0 ∧ j.natAbs.log2 < 9000)
def cMod : Int → Int → Bool := fun _ j => decide (j ≠ 0)
def cPow : Int → Int → Bool := fun i j => decide (0 ≤ j ∧ (intBits i : Int) * j ≤ 2 ^ 27)
theorem od_subI : OpD X W (binaryOp .Sub) (gI cT fun i j => i - j) := od_I fun _ _ _ _ _ _ _ _ q => sub_int q
theorem od_mulI : OpD X W (binaryOp .Mult) (gI cMul fun i j => i * j) := od_I fun _ _ _ _ _ _ _ c q => mul_int q (mul_ok (of_decide_eq_true c))
theorem od_divI : OpD X W (binaryOp .FloorDiv) (gI cDiv fun i j => i.fdiv j) := od_I fun _ _ _ _ _ _ _ c q =>
  have c' := of_decide_eq_true c
  floordiv_int c'.1 q (.inl (PyProof.noPylong_of_log2 c'.2))
theorem od_modI : OpD X W (binaryOp .Mod) (gI cMod fun i j => i.fmod j) := od_I fun _ _ _ _ _ _ _ c q => mod_int' (of_decide_eq_true c) q
theorem od_powI : OpD X W (binaryOp .Pow) (gI cPow fun i j => i ^ j.toNat) := od_I fun _ _ _ _ _ _ _ c q =>
  have c' := of_decide_eq_true c
  pow_int c'.1 c'.2 q
/-! ### + of texts, tuples, lists -/
def dAdd : D → D → Res D
  | .int i, .int j => .ok (.int (i + j))
  | .str a, .str b => if a.length + b.length ≤ sizeLine then .ok (.str (a ++ b)) else .bad
  | .tup a, .tup b => if a.length + b.length ≤ sizeLine then .ok (.tup (a ++ b)) else .bad
  | .lst a, .lst b => if a.length + b.length ≤ sizeLine then .ok (.lst (a ++ b)) else .bad
  | _, _ => .bad
/-- a + b of lists that are read -/
def rCatR (K : PySem.W.Frag) : R2 := fun x y H Q => ∃ l b xs zs, x = .ref l ∧ y = .ref b ∧ SqL K H l xs ∧ SqL K H b zs ∧ xs.length + zs.length ≤ sizeLine ∧ ∀ p, H p = none → Q (.ref p) (upd H p (.lst (xs ++ zs)))
theorem op_catR : OpR X (binaryOp .Add) (rCatR X.K) := by
  intro pins s σ H x y v u Q I rx ry h
  obtain ⟨l, b, xs, zs, rfl, rfl, hH, hB, hz, q⟩ := h
  cases rx
  cases ry
  obtain ⟨its, r, ⟨⟨cls, dd, data, sl⟩, n, ho, hc, hdd, hd⟩, _⟩ := I.list hH
  obtain ⟨its2, r2, ⟨⟨cls2, dd2, data2, sl2⟩, n2, ho2, hc2, hdd2, hd2⟩, _⟩ := I.list hB
  simp only at hc hd hc2 hd2
  subst hc hd hc2 hd2
  have l1 := r.length
  have l2 := r2.length
  have e : its.toArray ++ its2.toArray = (its ++ its2).toArray := by simp
  refine concat_meets ⟨_, ho, rfl⟩ ⟨_, ho2, rfl⟩ noFill_list_add seq_list_add PySem.F.slot_list_add PySem.F.entry_list_add (PySem.F.args_list_add_2 _ _) (list_addW l b its.toArray its2.toArray n n2 dd dd2 sl sl2 (by simp; omega)) ⟨ho, ho2, ?_⟩
  rw [e]
  exact ⟨.ref _, _, I.lnew (t' := s.toks) (r.append r2) (by rw [List.length_append]; omega), rfl, q _ I.fresh⟩
theorem op_addS' : OpR X (binaryOp .Add) (fun x y H Q => ∃ i j, x = .str i ∧ y = .str j ∧ i.length + j.length ≤ sizeLine ∧ Q (.str (i ++ j)) H) := op_add_str
theorem od_add : OpD X W (binaryOp .Add) dAdd := by
  refine ⟨_, OpR.or op_add (OpR.or op_addS' (OpR.or op_catA op_catR)), fun σ H G x y dx dy Q sg rx ry p => ?_⟩
  cases dx with
  | int i =>
    cases dy with
    | int j => exact .inl ⟨i, j, rx, ry, PostG.val (d := .int (i + j)) p sg rfl⟩
    | _ => exact (show False from p).elim
  | str i =>
    cases dy with
    | str j =>
      dsimp only [dAdd] at p
      by_cases hc : i.length + j.length ≤ sizeLine
      · rw [if_pos hc] at p
        exact .inr (.inl ⟨i, j, rx, ry, hc, p.here sg _ rfl⟩)
      · rw [if_neg hc] at p; exact p.elim
    | _ => exact (show False from p).elim
  | tup i =>
    cases dy with
    | tup j =>
      dsimp only [dAdd] at p
      by_cases hc : i.length + j.length ≤ sizeLine
      · rw [if_pos hc] at p
        obtain ⟨a, vs, e1, s1, r1⟩ := (show Rep X.K G (.tup i) x from rx)
        obtain ⟨b, ws, e2, s2, r2⟩ := (show Rep X.K G (.tup j) y from ry)
        refine .inr (.inr (.inl ⟨a, b, vs, ws, e1, e2, sg.pt s1, sg.pt s2, by rw [r1.length, r2.length]; exact hc, fun z => ?_, fun z1 z2 => ?_, fun z1 z2 q hq => ?_⟩))
        · subst z
          refine p.here sg _ ⟨b, ws, rfl, s2, ?_⟩
          cases i with
          | nil => exact r2
          | cons d ds => obtain ⟨_, _, e, _⟩ := r1; cases e
        · subst z2
          refine p.here sg _ ⟨a, vs, rfl, s1, ?_⟩
          cases j with
          | nil => rw [List.append_nil]; exact r1
          | cons d ds => obtain ⟨_, _, e, _⟩ := r2; cases e
        · exact p _ _ (Ext.laid sg hq) _ ⟨q, _, rfl, upd_same, (r1.append r2).mono (Sub.upd (sg.free hq))⟩
      · rw [if_neg hc] at p; exact p.elim
    | _ => exact (show False from p).elim
  | lst i =>
    cases dy with
    | lst j =>
      dsimp only [dAdd] at p
      by_cases hc : i.length + j.length ≤ sizeLine
      · rw [if_pos hc] at p
        obtain ⟨a, vs, e1, s1, r1⟩ := rx
        obtain ⟨b, ws, e2, s2, r2⟩ := ry
        refine .inr (.inr (.inr ⟨a, b, vs, ws, e1, e2, s1, s2, by rw [r1.length, r2.length]; exact hc, fun q hq => ?_⟩))
        exact p _ _ (Ext.laid sg hq) _ ⟨q, _, rfl, SqL.of upd_same, (r1.append r2).mono (Sub.upd (sg.free hq))⟩
      · rw [if_neg hc] at p; exact p.elim
    | _ => exact (show False from p).elim
  | _ => exact (show False from p).elim

/-! ### * -/
def dMul : D → D → Res D
  | .int i, .int j => if intBits i + intBits j ≤ big then .ok (.int (i * j)) else .bad
  | _, _ => .bad
theorem od_mul : OpD X W (binaryOp .Mult) dMul := od_mulI.congr fun x y => by
  cases x <;> cases y <;> first
    | exact .inl rfl
    | exact .inr (by simp [dMul, gI, cMul])
def dSub : D → D → Res D
  | .int i, .int j => .ok (.int (i - j))
  | _, _ => .bad
theorem od_sub : OpD X W (binaryOp .Sub) dSub := od_subI.congr fun x y => by
  cases x <;> cases y <;> first
    | exact .inl rfl
    | exact .inr (by simp [dSub, gI, cT])
def dDiv : D → D → Res D
  | .int i, .int j => if j ≠ 0 ∧ j.natAbs.log2 < 9000 then .ok (.int (i.fdiv j)) else .bad
  | _, _ => .bad
theorem od_div : OpD X W (binaryOp .FloorDiv) dDiv := od_divI.congr fun x y => by
  cases x <;> cases y <;> first
    | exact .inl rfl
    | exact .inr (by simp [dDiv, gI, cDiv])
def dMod : D → D → Res D
  | .int i, .int j => if j ≠ 0 then .ok (.int (i.fmod j)) else .bad
  | _, _ => .bad
theorem od_mod : OpD X W (binaryOp .Mod) dMod := od_modI.congr fun x y => by
  cases x <;> cases y <;> first
    | exact .inl rfl
    | exact .inr (by simp [dMod, gI, cMod])
def dPow : D → D → Res D
  | .int i, .int j => if 0 ≤ j ∧ (intBits i : Int) * j ≤ 2 ^ 27 then .ok (.int (i ^ j.toNat)) else .bad
  | _, _ => .bad
theorem od_pow : OpD X W (binaryOp .Pow) dPow := od_powI.congr fun x y => by
  cases x <;> cases y <;> first
    | exact .inl rfl
    | exact .inr (by simp [dPow, gI, cPow])

end

/-! ### == of data -/
mutual
def D.py : D → PyData
  | .non => .none
  | .bl b => .bool b
  | .int i => .int i
  | .str x => .str x
  | .obj _ => .none
  | .err _ _ => .none
  | .exn _ _ _ => .none
  | .tup xs => .tuple (D.pys xs)
  | .lst xs => .list (D.pys xs)
  | .dct _ _ => .none
  | .con xs => .tuple (D.pys xs)
def D.pys : List D → List PyData
  | [] => []
  | d :: r => D.py d :: D.pys r
end
mutual
/-- without dicts and objects; texts that are texts; at most so deep -/
def D.pl : D → Nat → Bool
  | .non, _ => true
  | .bl _, _ => true
  | .int _, _ => true
  | .str x, _ => PyData.strOk x
  | .obj _, _ => false
  | .err _ _, _ => false
  | .exn _ _ _, _ => false
  | .tup xs, n => match n with
    | 0 => false
    | n + 1 => D.pls xs n
  | .lst xs, n => match n with
    | 0 => false
    | n + 1 => D.pls xs n
  | .dct _ _, _ => false
  | .con xs, n => match n with
    | 0 => false
    | n + 1 => D.pls xs n
def D.pls : List D → Nat → Bool
  | [], _ => true
  | d :: r, n => D.pl d n && D.pls r n
end
theorem pl_nd {d : D} {n : Nat} (h : d.pl n = true) : d.isDct = false := by
  cases d with
  | dct t kvs => simp [D.pl] at h
  | _ => rfl
mutual
theorem py_can : ∀ (d : D) (n : Nat), d.pl n = true → d.py.canLay0 = true ∧ d.py.depth ≤ n
  | .non, n, _ => ⟨by simp [D.py, PyData.canLay0], by simp [D.py, PyData.depth]⟩
  | .bl _, n, _ => ⟨by simp [D.py, PyData.canLay0], by simp [D.py, PyData.depth]⟩
  | .int _, n, _ => ⟨by simp [D.py, PyData.canLay0], by simp [D.py, PyData.depth]⟩
  | .str _, n, h => ⟨by simpa [D.py, PyData.canLay0, D.pl] using h, by simp [D.py, PyData.depth]⟩
  | .obj _, n, h => by simp [D.pl] at h
  | .err _ _, n, h => by simp [D.pl] at h
  | .exn _ _ _, n, h => by simp [D.pl] at h
  | .dct _ _, n, h => by simp [D.pl] at h
  | .con xs, 0, h => by simp [D.pl] at h
  | .con xs, n + 1, h => by
    have := pys_can xs n (by simpa [D.pl] using h)
    exact ⟨by simpa [D.py, PyData.canLay0] using this.1, by simp [D.py, PyData.depth]; exact this.2⟩
  | .tup xs, 0, h => by simp [D.pl] at h
  | .lst xs, 0, h => by simp [D.pl] at h
  | .tup xs, n + 1, h => by
    have := pys_can xs n (by simpa [D.pl] using h)
    exact ⟨by simpa [D.py, PyData.canLay0] using this.1, by simp [D.py, PyData.depth]; exact this.2⟩
  | .lst xs, n + 1, h => by
    have := pys_can xs n (by simpa [D.pl] using h)
    exact ⟨by simpa [D.py, PyData.canLay0] using this.1, by simp [D.py, PyData.depth]; exact this.2⟩
theorem pys_can : ∀ (ds : List D) (n : Nat), D.pls ds n = true → PyData.canLayAll0 (D.pys ds) = true ∧ PyData.depthAll (D.pys ds) ≤ n
  | [], n, _ => ⟨by simp [D.pys, PyData.canLayAll0], by simp [D.pys, PyData.depthAll]⟩
  | d :: r, n, h => by
    have h' : d.pl n = true ∧ D.pls r n = true := by simpa [D.pls] using h
    have a := py_can d n h'.1
    have b := pys_can r n h'.2
    exact ⟨by simp [D.pys, PyData.canLayAll0, a.1, b.1], by simp only [D.pys, PyData.depthAll]; omega⟩
end
mutual
theorem Rep.dp {K : PySem.W.Frag} {H : Hp} : ∀ (d : D) (n : Nat) (v : V), d.pl n = true → Rep K H d v → Dp K H v d.py
  | .non, n, v, _, r => by rw [show v = .non from r]; exact .non
  | .bl b, n, v, _, r => by rw [show v = .bl b from r]; exact .bl b
  | .int i, n, v, _, r => by rw [show v = .int i from r]; exact .int i
  | .str x, n, v, _, r => by rw [show v = .str x from r]; exact .str x
  | .obj _, n, v, h, r => by simp [D.pl] at h
  | .err _ _, n, v, h, r => by simp [D.pl] at h
  | .exn _ _ _, n, v, h, r => by simp [D.pl] at h
  | .dct _ _, n, v, h, r => by simp [D.pl] at h
  | .con xs, 0, v, h, r => by simp [D.pl] at h
  | .con xs, n + 1, v, h, r => by
    obtain ⟨a, vs, e, s, q⟩ := r
    subst e
    exact .tup s.sqt (RepL.dp xs n vs (by simpa [D.pl] using h) q)
  | .tup xs, 0, v, h, r => by simp [D.pl] at h
  | .lst xs, 0, v, h, r => by simp [D.pl] at h
  | .tup xs, n + 1, v, h, r => by
    obtain ⟨a, vs, e, s, q⟩ := r
    subst e
    exact .tup (SqT.of s) (RepL.dp xs n vs (by simpa [D.pl] using h) q)
  | .lst xs, n + 1, v, h, r => by
    obtain ⟨a, vs, e, s, q⟩ := r
    subst e
    exact .lst s (RepL.dp xs n vs (by simpa [D.pl] using h) q)
theorem RepL.dp {K : PySem.W.Frag} {H : Hp} : ∀ (ds : List D) (n : Nat) (vs : List V), D.pls ds n = true → RepL K H ds vs → DpAll K H vs (D.pys ds)
  | [], n, vs, _, r => by rw [show vs = [] from r]; exact .nil
  | d :: ds, n, vs, h, r => by
    obtain ⟨v, t, e, a, b⟩ := r
    subst e
    have h' : d.pl n = true ∧ D.pls ds n = true := by simpa [D.pls] using h
    exact .cons (Rep.dp d n v h'.1 a) (RepL.dp ds n t h'.2 b)
end
theorem shaped_py {d : D} {n : Nat} (h : d.pl n = true) (hn : n ≤ 64) : SeqAt.shaped d.py = true := by
  have := py_can d n h
  unfold SeqAt.shaped
  rw [this.1, decide_eq_true (by omega : d.py.depth ≤ 64)]
  rfl
def D.beq (x y : D) : Bool := PyData.eqv x.py y.py
def dEq : D → D → Res D
  | .str a, .str b => .ok (.bl (decide (a = b)))
  | x, y => if x.pl 60 = true ∧ y.pl 60 = true then .ok (.bl (D.beq x y)) else .bad
def dNe : D → D → Res D
  | .str a, .str b => .ok (.bl (!decide (a = b)))
  | x, y => if x.pl 60 = true ∧ y.pl 60 = true then .ok (.bl (!D.beq x y)) else .bad
section
variable {X : Cx} {W : WX}
theorem od_eq (hu : X.A.units + 64 < cLine) : OpD X W (compareOp .Eq) dEq := by
  refine ⟨_, OpR.or op_eq (op_eqD hu), fun σ H G x y dx dy Q sg rx ry p => ?_⟩
  have gen : PostG X.K X.mg (fun c o H' => W c o σ H') H G (if dx.pl 60 = true ∧ dy.pl 60 = true then .ok (.bl (D.beq dx dy)) else .bad) (fun d H' G' => ∀ v, Rep X.K G' d v → Q v H') → rEq x y H Q ∨ rEqD X.K x y H Q := fun p => by
    by_cases hc : dx.pl 60 = true ∧ dy.pl 60 = true
    · rw [if_pos hc] at p
      exact .inr ⟨dx.py, dy.py, Rep.dp dx 60 x hc.1 (rx.all sg (pl_nd hc.1)), Rep.dp dy 60 y hc.2 (ry.all sg (pl_nd hc.2)), shaped_py hc.1 (by decide), shaped_py hc.2 (by decide), p.here sg _ rfl⟩
    · rw [if_neg hc] at p; exact p.elim
  cases dx with
  | str a =>
    cases dy with
    | str b =>
      have rx' : x = .str a := rx
      have ry' : y = .str b := ry
      subst rx' ry'
      refine .inl ⟨rfl, ?_⟩
      have q : Q (.bl (decide (a = b))) H := PostG.val (d := .bl (decide (a = b))) p sg rfl
      have e : decide (V.str a = V.str b) = decide (a = b) := by simp
      rw [e]; exact q
    | _ => exact gen p
  | _ => exact gen p
theorem od_ne (hu : X.A.units + 64 < cLine) : OpD X W (compareOp .NotEq) dNe := by
  refine ⟨_, OpR.or op_ne (op_neD hu), fun σ H G x y dx dy Q sg rx ry p => ?_⟩
  have gen : PostG X.K X.mg (fun c o H' => W c o σ H') H G (if dx.pl 60 = true ∧ dy.pl 60 = true then .ok (.bl (!D.beq dx dy)) else .bad) (fun d H' G' => ∀ v, Rep X.K G' d v → Q v H') → rNe x y H Q ∨ rNeD X.K x y H Q := fun p => by
    by_cases hc : dx.pl 60 = true ∧ dy.pl 60 = true
    · rw [if_pos hc] at p
      exact .inr ⟨dx.py, dy.py, Rep.dp dx 60 x hc.1 (rx.all sg (pl_nd hc.1)), Rep.dp dy 60 y hc.2 (ry.all sg (pl_nd hc.2)), shaped_py hc.1 (by decide), shaped_py hc.2 (by decide), p.here sg _ rfl⟩
    · rw [if_neg hc] at p; exact p.elim
  cases dx with
  | str a =>
    cases dy with
    | str b =>
      have rx' : x = .str a := rx
      have ry' : y = .str b := ry
      subst rx' ry'
      refine .inl ⟨rfl, ?_⟩
      have q : Q (.bl (!decide (a = b))) H := PostG.val (d := .bl (!decide (a = b))) p sg rfl
      have e : decide (V.str a = V.str b) = decide (a = b) := by simp
      rw [e]; exact q
    | _ => exact gen p
  | _ => exact gen p
end
/-! ### < of data -/
/-- the two can be compared -/
def D.cmpb (x y : D) : Bool := x.pl 60 && y.pl 60 && PySem.W.alike x.py y.py && (match x with | .non => false | _ => true)
/-- x < y, of data that can be compared -/
def D.lt (x y : D) : Bool := PySem.W.dataLt x.py y.py
def cmpD (f : D → D → Bool) (x y : D) : Res D := if D.cmpb x y = true then .ok (.bl (f x y)) else .bad
def dLt : D → D → Res D
  | .int i, .int j => .ok (.bl (decide (i < j)))
  | x, y => cmpD (fun x y => D.lt x y) x y
def dLe : D → D → Res D
  | .int i, .int j => .ok (.bl (decide (i ≤ j)))
  | x, y => cmpD (fun x y => !D.lt y x) x y
def dGt : D → D → Res D
  | .int i, .int j => .ok (.bl (decide (j < i)))
  | x, y => cmpD (fun x y => D.lt y x) x y
def dGe : D → D → Res D
  | .int i, .int j => .ok (.bl (decide (j ≤ i)))
  | x, y => cmpD (fun x y => !D.lt x y) x y
def rCmpD (K : PySem.W.Frag) (f : PyData → PyData → Bool) : R2 := fun x y H Q => ∃ d e, Dp K H x d ∧ Dp K H y e ∧ SeqAt.shaped d = true ∧ SeqAt.shaped e = true ∧ PySem.W.alike d e = true ∧ d ≠ .none ∧ Q (.bl (f d e)) H
theorem shaped_depth {d : PyData} (h : SeqAt.shaped d = true) : d.depth ≤ 64 := by
  unfold SeqAt.shaped at h
  rw [Bool.and_eq_true] at h
  exact of_decide_eq_true h.2
section
variable {X : Cx} {W : WX}
theorem op_ltD (hu : X.A.units + 64 < cLine) : OpR X (compareOp .Lt) (rCmpD X.K PySem.W.dataLt) := by
  intro pins s σ H x y v u Q I rx ry h
  obtain ⟨d, e, hd, he, sd, se, al, nn, q⟩ := h
  obtain ⟨as, r1⟩ := Dp.reads I d x v hd rx
  obtain ⟨bs, r2⟩ := Dp.reads I e y u he ry
  have := shaped_depth sd
  exact PySem.W.lt_data r1 r2 al nn (by omega) ⟨.bl _, H, I, rfl, q⟩
theorem op_leD (hu : X.A.units + 64 < cLine) : OpR X (compareOp .LtE) (rCmpD X.K fun d e => !PySem.W.dataLt e d) := by
  intro pins s σ H x y v u Q I rx ry h
  obtain ⟨d, e, hd, he, sd, se, al, nn, q⟩ := h
  obtain ⟨as, r1⟩ := Dp.reads I d x v hd rx
  obtain ⟨bs, r2⟩ := Dp.reads I e y u he ry
  have := shaped_depth sd
  exact PySem.W.le_data r1 r2 al nn (by omega) ⟨.bl _, H, I, rfl, q⟩
theorem cmp_rep {K : PySem.W.Frag} {H G : Hp} {x y : V} {dx dy : D} (sg : Sub G H) (hc : D.cmpb dx dy = true) (rx : RepC K H G dx x) (ry : RepC K H G dy y) :
    Dp K H x dx.py ∧ Dp K H y dy.py ∧ SeqAt.shaped dx.py = true ∧ SeqAt.shaped dy.py = true ∧ PySem.W.alike dx.py dy.py = true ∧ dx.py ≠ .none := by
  unfold D.cmpb at hc
  simp only [Bool.and_eq_true] at hc
  obtain ⟨⟨⟨h1, h2⟩, h3⟩, h4⟩ := hc
  refine ⟨Rep.dp dx 60 x h1 (rx.all sg (pl_nd h1)), Rep.dp dy 60 y h2 (ry.all sg (pl_nd h2)), shaped_py h1 (by decide), shaped_py h2 (by decide), h3, ?_⟩
  cases dx with
  | non => cases h4
  | obj _ => simp [D.pl] at h1
  | err _ _ => simp [D.pl] at h1
  | exn _ _ _ => simp [D.pl] at h1
  | dct _ _ => simp [D.pl] at h1
  | _ => simp [D.py]
theorem od_cmp {op : CmpOp} {g : D → D → Res D} {gi : Int → Int → Bool} {f : D → D → Bool} {fp : PyData → PyData → Bool} (o1 : OpR X (compareOp op) (rI0 fun i j => .bl (gi i j))) (o2 : OpR X (compareOp op) (rCmpD X.K fp)) (hf : ∀ x y, f x y = fp x.py y.py)
    (hg : ∀ x y, (∃ i j, x = .int i ∧ y = .int j ∧ g x y = .ok (.bl (gi i j))) ∨ g x y = cmpD f x y) : OpD X W (compareOp op) g := by
  refine ⟨_, OpR.or o1 o2, fun σ H G x y dx dy Q sg rx ry p => ?_⟩
  rcases hg dx dy with ⟨i, j, e1, e2, e3⟩ | e
  · subst e1 e2
    rw [e3] at p
    exact .inl ⟨i, j, rx, ry, PostG.val (d := .bl (gi i j)) p sg rfl⟩
  · rw [e] at p
    unfold cmpD at p
    by_cases hc : D.cmpb dx dy = true
    · rw [if_pos hc] at p
      obtain ⟨a1, a2, a3, a4, a5, a6⟩ := cmp_rep sg hc rx ry
      refine .inr ⟨_, _, a1, a2, a3, a4, a5, a6, ?_⟩
      rw [← hf]
      exact p.here sg _ rfl
    · rw [if_neg hc] at p; exact p.elim
theorem od_lt (hu : X.A.units + 64 < cLine) : OpD X W (compareOp .Lt) dLt := od_cmp op_lt (op_ltD hu) (fun _ _ => rfl) fun x y => by
  cases x <;> cases y <;> first
    | exact .inl ⟨_, _, rfl, rfl, rfl⟩
    | exact .inr rfl
theorem od_le (hu : X.A.units + 64 < cLine) : OpD X W (compareOp .LtE) dLe := od_cmp op_le (op_leD hu) (fun _ _ => rfl) fun x y => by
  cases x <;> cases y <;> first
    | exact .inl ⟨_, _, rfl, rfl, rfl⟩
    | exact .inr rfl
end
end DL

namespace DL
open PySem PySem.Spec PyProof.Rows L2
open PySem.Builtin.Int (intBits)

/-! ### tests -/
def D.asB : D → Res Bool
  | .bl b => .ok b
  | _ => .bad
/-- a value's truth -/
def D.truth : D → Res Bool
  | .non => .ok false
  | .bl b => .ok b
  | .int i => .ok (i != 0)
  | .str x => if x.length ≤ sizeLine then .ok ((x.length : Int) != 0) else .bad
  | .lst xs => .ok (!xs.isEmpty)
  | .tup xs => .ok (!xs.isEmpty)
  | _ => .bad
def bTest (g : D → D → Res D) (fa fb : Env → Res D) : Env → Res Bool := fun e => (fa e).bind fun x => (fb e).bind fun y => (g x y).bind D.asB
def bTruth (f : Env → Res D) : Env → Res Bool := fun e => (f e).bind D.truth
def bAnd (fa fb : Env → Res Bool) : Env → Res Bool := fun e => (fa e).bind fun b => if b = true then fb e else .ok false
def bOr (fa fb : Env → Res Bool) : Env → Res Bool := fun e => (fa e).bind fun b => if b = true then .ok true else fb e
def bNot (fa : Env → Res Bool) : Env → Res Bool := fun e => (fa e).bind fun b => .ok (!b)
section
variable {X : Cx} {W : WX} {A : Nat → Prop} {a b : Expr} {rest : List Expr} {pos : Pos}
theorem dt_cmp {op : CmpOp} {fa fb : Env → Res D} {g : D → D → Res D} (ho : OpD X W (compareOp op) g) (ha : DR X W A a fa) (hb : DR X W A b fb) (hm : behindInMarks op b = false) : DT X W A (.Compare a [op] [b] pos) (bTest g fa fb) := by
  obtain ⟨r, h1, h2⟩ := ho
  refine (pt_cmpR h1 ha hb hm).imp fun σ H Q ⟨e, G, E, p⟩ => ?_
  refine ⟨e, G, E, p.split.imp fun dx H1 G1 x1 p1 v rv => ⟨e, G1, E.ext x1, p1.split.imp fun dy H2 G2 x2 p2 u ru => ?_⟩⟩
  refine h2 σ H2 G2 v u dx dy _ x2.gh (rv.mono x2.hh x2.gg) ru (p2.split.imp fun d H3 G3 x3 p3 z rz => ?_)
  cases d with
  | bl k => exact ⟨k, rz, p3.here x3.gh⟩
  | _ => exact (show False from p3).elim
theorem truth_v {K : PySem.W.Frag} {H G : Hp} {d : D} {v : V} {k : Bool} (g : Sub G H) (r : RepC K H G d v) (h : d.truth = .ok k) : TruV K v H k := by
  cases d with
  | non => have : v = .non := r; subst this; cases h; rfl
  | bl b => have : v = .bl b := r; subst this; cases h; rfl
  | int i => have : v = .int i := r; subst this; cases h; rfl
  | str x =>
    have : v = .str x := r
    subst this
    dsimp only [D.truth] at h
    by_cases hc : x.length ≤ sizeLine
    · rw [if_pos hc] at h; cases h; exact ⟨hc, rfl⟩
    · rw [if_neg hc] at h; cases h
  | lst xs =>
    obtain ⟨p, vs, e, s, q⟩ := r
    subst e
    cases h
    refine .inl ⟨vs, s, ?_⟩
    have := q.length
    cases vs <;> cases xs <;> simp at this ⊢
  | tup xs =>
    obtain ⟨p, vs, e, s, q⟩ := (show Rep K G (.tup xs) v from r)
    subst e
    cases h
    refine .inr (.inl ⟨vs, g.pt s, ?_⟩)
    have := q.length
    cases vs <;> cases xs <;> simp at this ⊢
  | obj _ => cases h
  | con _ => cases h
  | dct _ _ => cases h
  | err _ _ => cases h
  | exn _ _ _ => cases h
theorem dt_truth {f : Env → Res D} (ha : DR X W A a f) (he : ∀ whole, isTrue a X.env whole = (do let v ← whole; standAt a.pos; holding [v] (truthy v))) : DT X W A a (bTruth f) :=
  (pt_truth ha he).imp fun σ H Q ⟨e, G, E, p⟩ => ⟨e, G, E, p.split.imp fun d H1 G1 x1 p1 v rv => by
    cases ht : d.truth with
    | ok k => rw [ht] at p1; exact ⟨k, truth_v x1.gh rv ht, p1.here x1.gh⟩
    | exc c fs => exact absurd ht (by cases d <;> simp [D.truth] <;> split <;> simp)
    | bad => rw [ht] at p1; exact p1.elim⟩
theorem dw_or1 {fa : Env → Res Bool} (ha : DT X W A a fa) : DW X W A (.BoolOp .Or [a] pos) fa := pw_or1 ha
theorem dw_or {fa fb : Env → Res Bool} (ha : DT X W A a fa) (hb : DW X W A (.BoolOp .Or (b :: rest) pos) fb) : DW X W A (.BoolOp .Or (a :: b :: rest) pos) (bOr fa fb) :=
  (pw_or ha hb).imp fun σ H Q ⟨e, G, E, p⟩ => ⟨e, G, E, p.split.imp fun k H1 G1 x1 p1 => by
    cases k with
    | true => rw [if_pos rfl] at p1 ⊢; exact p1.here x1.gh
    | false => rw [if_neg Bool.false_ne_true] at p1 ⊢; exact ⟨e, G1, E.ext x1, p1⟩⟩
theorem dt_w {f : Env → Res Bool} (h : DW X W A a f) : DT X W A a f := h.pt
theorem dt_not {fa : Env → Res Bool} (ha : DT X W A a fa) : DT X W A (.UnaryOp .Not a pos) (bNot fa) :=
  (pt_not ha).imp fun σ H Q ⟨e, G, E, p⟩ => ⟨e, G, E, p.split.imp fun k H1 G1 x1 p1 => p1.here x1.gh⟩

/-! ### and, or, not, if-else as values -/
def eAnd (fa fb : Env → Res D) : Env → Res D := fun e => (fa e).bind fun x => (D.asB x).bind fun b => if b = true then fb e else .ok (.bl false)
def eOr (fa fb : Env → Res D) : Env → Res D := fun e => (fa e).bind fun x => (D.asB x).bind fun b => if b = true then .ok (.bl true) else fb e
def eNot (fa : Env → Res D) : Env → Res D := fun e => (fa e).bind fun x => (D.asB x).bind fun b => .ok (.bl (!b))
def eNeg (fa : Env → Res D) : Env → Res D := fun e => (fa e).bind fun x => match x with
  | .int i => .ok (.int (-i))
  | _ => .bad
def eIf (ft : Env → Res Bool) (fa fb : Env → Res D) : Env → Res D := fun e => (ft e).bind fun b => if b = true then fa e else fb e
theorem asB_of {K : PySem.W.Frag} {mg : Str → Option Value} {W : Value → Option Addr → Hp → Prop} {H G : Hp} {d : D} {α : Type} {f : Bool → Res α} {R : α → Hp → Hp → Prop} (p : PostG K mg W H G ((D.asB d).bind f) R) : ∃ b, d = .bl b ∧ PostG K mg W H G (f b) R := by
  cases d with
  | bl b => exact ⟨b, rfl, p⟩
  | _ => exact (show False from p).elim
theorem de_one {op} {f : Env → Res D} (h : DE X W A a f) : DE X W A (.BoolOp op [a] pos) f := pe_one h
theorem de_and {fa fb : Env → Res D} (ha : DE X W A a fa) (hb : DE X W A (.BoolOp .And (b :: rest) pos) fb) : DE X W A (.BoolOp .And (a :: b :: rest) pos) (eAnd fa fb) :=
  (pe_and ha hb).imp fun σ H Q ⟨e, G, E, p⟩ => ⟨e, G, E, p.split.imp fun x H1 G1 x1 p1 v rv => by
    obtain ⟨k, rfl, p2⟩ := asB_of p1
    refine ⟨k, rv, ?_⟩
    cases k with
    | true => rw [if_pos rfl] at p2 ⊢; exact ⟨e, G1, E.ext x1, p2⟩
    | false => rw [if_neg Bool.false_ne_true] at p2 ⊢; exact p2.val x1.gh rfl⟩
theorem de_or {fa fb : Env → Res D} (ha : DE X W A a fa) (hb : DE X W A (.BoolOp .Or (b :: rest) pos) fb) : DE X W A (.BoolOp .Or (a :: b :: rest) pos) (eOr fa fb) :=
  (pe_or ha hb).imp fun σ H Q ⟨e, G, E, p⟩ => ⟨e, G, E, p.split.imp fun x H1 G1 x1 p1 v rv => by
    obtain ⟨k, rfl, p2⟩ := asB_of p1
    refine ⟨k, rv, ?_⟩
    cases k with
    | true => rw [if_pos rfl] at p2 ⊢; exact p2.val x1.gh rfl
    | false => rw [if_neg Bool.false_ne_true] at p2 ⊢; exact ⟨e, G1, E.ext x1, p2⟩⟩
theorem de_neg {fa : Env → Res D} (ha : DE X W A a fa) : DE X W A (.UnaryOp .USub a pos) (eNeg fa) :=
  (pe_un un_neg ha).imp fun σ H Q ⟨e, G, E, p⟩ => ⟨e, G, E, p.split.imp fun x H1 G1 x1 p1 v rv => by
    cases x with
    | int i => exact ⟨i, rv, PostG.val (d := .int (-i)) p1 x1.gh rfl⟩
    | _ => exact (show False from p1).elim⟩
def bVal (f : Env → Res D) : Env → Res Bool := fun e => (f e).bind D.asB
/-! ### argument lists, displays -/
def aNil : Env → Res (List D) := fun _ => .ok []
def aCons (f : Env → Res D) (fs : Env → Res (List D)) : Env → Res (List D) := fun e => (f e).bind fun d => (fs e).bind fun ds => .ok (d :: ds)
theorem da_nil : DA X W A [] aNil := pa_nil.imp fun σ H Q ⟨e, G, E, p⟩ => p.here E.sub [] rfl
theorem da_cons {es : List Expr} {f : Env → Res D} {fs : Env → Res (List D)} (ha : DE X W A a f) (hr : DA X W A es fs) (hs : starEach (a :: es) X.env = (false, eval a X.env) :: starEach es X.env := by rfl) : DA X W A (a :: es) (aCons f fs) :=
  (pa_cons ha hr hs).imp fun σ H Q ⟨e, G, E, p⟩ => ⟨e, G, E, p.split.imp fun d H1 G1 x1 p1 v rv => ⟨e, G1, E.ext x1, p1.split.imp fun ds H2 G2 x2 p2 vs rs => p2.here x2.gh (v :: vs) (.cons (rv.mono x2.gg) rs)⟩⟩
def eTup (fs : Env → Res (List D)) : Env → Res D := fun e => (fs e).bind fun ds => .ok (.tup ds)
def eLst (fs : Env → Res (List D)) : Env → Res D := fun e => (fs e).bind fun ds => .ok (.lst ds)
/-- how long such a list is -/
def LenIs (fs : Env → Res (List D)) (n : Nat) : Prop := ∀ e ds, fs e = .ok ds → ds.length ≤ n
theorem len_nil : LenIs aNil 0 := fun e ds h => by cases h; exact Nat.le_refl _
theorem len_cons {f : Env → Res D} {fs : Env → Res (List D)} {n : Nat} (h : LenIs fs n) : LenIs (aCons f fs) (n + 1) := fun e ds q => by
  unfold aCons at q
  cases hf : f e with
  | ok d =>
    rw [hf] at q
    cases hs : fs e with
    | ok es => rw [hs] at q; cases q; exact Nat.succ_le_succ (h e es hs)
    | exc c x => rw [hs] at q; cases q
    | bad => rw [hs] at q; cases q
  | exc c x => rw [hf] at q; cases q
  | bad => rw [hf] at q; cases q
theorem PostG.ifok {K : PySem.W.Frag} {mg : Str → Option Value} {W : Value → Option Addr → Hp → Prop} {H G : Hp} {α : Type} {r : Res α} {R R' : α → Hp → Hp → Prop} (h : PostG K mg W H G r R) (f : ∀ a H' G', r = .ok a → Ext H G H' G' → R a H' G' → R' a H' G') : PostG K mg W H G r R' := by
  cases r with
  | ok a => exact fun H2 G2 y => f a H2 G2 rfl y (h H2 G2 y)
  | exc c fs => exact h
  | bad => exact h
theorem de_tup {es : List Expr} {x1} {fs : Env → Res (List D)} {n : Nat} (h : DA X W A es fs) (hl : LenIs fs n) (hn : n ≤ sizeLine) : DE X W A (.Tuple es x1 pos) (eTup fs) :=
  (pe_tup h).imp fun σ H Q ⟨e, G, E, p⟩ => ⟨e, G, E, p.split.ifok fun ds H1 G1 hk x1 p1 vs rs => ⟨by rw [rs.length]; exact Nat.le_trans (hl e ds hk) hn, fun q hq =>
    p1 _ _ (Ext.laid x1.gh hq) _ ⟨q, vs, rfl, upd_same, rs.mono (Sub.upd (x1.gh.free hq))⟩⟩⟩
theorem df_lst {es : List Expr} {fs : Env → Res (List D)} {n : Nat} (h : DA X W A es fs) (hl : LenIs fs n) (hn : n ≤ sizeLine) : DF X W A (.List es pos) (eLst fs) :=
  (pe_lst h).imp fun σ H Q ⟨e, G, E, p⟩ => ⟨e, G, E, p.split.ifok fun ds H1 G1 hk x1 p1 vs rs => ⟨by rw [rs.length]; exact Nat.le_trans (hl e ds hk) hn, fun q hq =>
    p1 (upd H1 q (.lst vs)) G1 ⟨Sub.upd hq, Sub.refl _, x1.gh.trans (Sub.upd hq), fun b z => .inl z⟩ q (x1.hh.free hq) (x1.gh.free hq) ⟨vs, upd_same, rs⟩⟩⟩

/-! ### subscripts -/
def dIx : D → D → Res D
  | .con xs, .int i => match atI xs i with
    | some d => .ok d
    | none => .bad
  | .tup xs, .int i => match atI xs i with
    | some d => .ok d
    | none => .bad
  | .lst xs, .int i => match atI xs i with
    | some d => .ok d
    | none => .bad
  | .str x, .int i => if x.length ≤ sizeLine then (match atI x.cps.toList i with
    | some c => .ok (.str ⟨#[c]⟩)
    | none => .bad) else .bad
  | _, _ => .bad
theorem atI_rep {K : PySem.W.Frag} {G : Hp} {ds : List D} {vs : List V} {i : Int} {d : D} (r : RepL K G ds vs) (h : atI ds i = some d) : ∃ v, atI vs i = some v ∧ Rep K G d v := by
  unfold atI at h ⊢
  rw [r.length]
  cases e : ixN ds.length i with
  | none => rw [e] at h; cases h
  | some j =>
    rw [e] at h
    have h' : ds[j]? = some d := h
    obtain ⟨v, h1, h2⟩ := r.get h'
    exact ⟨v, h1, h2⟩
theorem de_ix {fa fb : Env → Res D} (ha : DR X W A a fa) (hb : DR X W A b fb) (hs : PlainIx b) : DE X W A (.Subscript a b pos) (eOp dIx fa fb) := by
  refine (pe_ix (IxR.or ix_list (IxR.or ix_tup ix_str)) ha hb hs).imp (op_two rfl rfl fun σ H G x y dx dy Q sg rx ry p => ?_)
  cases dx with
  | tup ds =>
    cases dy with
    | int i =>
      obtain ⟨q, vs, e, s, r⟩ := (show Rep X.K G (.tup ds) x from rx)
      dsimp only [dIx] at p
      cases ha : atI ds i with
      | none => rw [ha] at p; exact p.elim
      | some d =>
        rw [ha] at p
        obtain ⟨v, h1, h2⟩ := atI_rep r ha
        exact .inr (.inl ⟨q, vs, i, v, e, ry, sg.pt s, h1, p.val sg h2⟩)
    | _ => exact (show False from p).elim
  | con ds =>
    cases dy with
    | int i =>
      obtain ⟨q, vs, e, s, r⟩ := (show Rep X.K G (.con ds) x from rx)
      dsimp only [dIx] at p
      cases ha : atI ds i with
      | none => rw [ha] at p; exact p.elim
      | some d =>
        rw [ha] at p
        obtain ⟨v, h1, h2⟩ := atI_rep r ha
        exact .inr (.inl ⟨q, vs, i, v, e, ry, sg.sqt s.sqt, h1, p.val sg h2⟩)
    | _ => exact (show False from p).elim
  | lst ds =>
    cases dy with
    | int i =>
      obtain ⟨q, vs, e, s, r⟩ := rx
      dsimp only [dIx] at p
      cases ha : atI ds i with
      | none => rw [ha] at p; exact p.elim
      | some d =>
        rw [ha] at p
        obtain ⟨v, h1, h2⟩ := atI_rep r ha
        exact .inl ⟨q, vs, i, v, e, ry, s, h1, p.val sg h2⟩
    | _ => exact (show False from p).elim
  | str z =>
    cases dy with
    | int i =>
      dsimp only [dIx] at p
      by_cases hz : z.length ≤ sizeLine
      · rw [if_pos hz] at p
        cases ha : atI z.cps.toList i with
        | none => rw [ha] at p; exact p.elim
        | some c =>
          rw [ha] at p
          exact .inr (.inr ⟨z, i, c, rx, ry, hz, ha, p.val sg rfl⟩)
      · rw [if_neg hz] at p; exact p.elim
    | _ => exact (show False from p).elim
  | _ => exact (show False from p).elim
end
end DL

namespace DL
open PySem PySem.Spec PyProof.Rows L2
open PySem.Builtin.Int (intBits)

/-! ### slices -/
def tO (K : PySem.W.Frag) (mg : Str → Option Value) (W : WX) (A : Nat → Prop) (f : Env → Res (Option Int)) : TO := fun σ H Q => ∃ e G, EnvG K A σ e H G ∧ PostG K mg (fun c o H' => W c o σ H') H G (f e) fun b H' G' => Q b H'
abbrev DO (X : Cx) (W : WX) (A : Nat → Prop) (ex : Option Expr) (f : Env → Res (Option Int)) : Prop := PO X ex (tO X.K X.mg W A f)
theorem _root_.L2.PO.imp {X : Cx} {e : Option Expr} {t t' : TO} (h : PO X e t) (f : ∀ σ H Q, t' σ H Q → t σ H Q) : PO X e t' := ⟨fun pins s σ H Q I q => h.run pins s σ H Q I (f σ H Q q)⟩
def oNone : Env → Res (Option Int) := fun _ => .ok none
def oSome (f : Env → Res D) : Env → Res (Option Int) := fun e => (f e).bind fun d => match d with
  | .int i => .ok (some i)
  | _ => .bad
def cutL {α : Type} (xs : List α) (lo hi : Option Int) : List α := (xs.drop (HT.sIx xs.length 0 lo)).take (HT.sIx xs.length xs.length hi - HT.sIx xs.length 0 lo)
def dCut (lo hi : Option Int) : D → Res D
  | .tup xs => .ok (.tup (cutL xs lo hi))
  | .lst xs => .ok (.lst (cutL xs lo hi))
  | .str x => if x.length ≤ sizeLine then .ok (.str (cutS x lo hi)) else .bad
  | _ => .bad
def eCut (f : Env → Res D) (fl fh : Env → Res (Option Int)) : Env → Res D := fun e => (f e).bind fun d => (fl e).bind fun lo => (fh e).bind fun hi => dCut lo hi d
theorem cutL_all {α : Type} {xs : List α} {lo hi : Option Int} (h : HT.sIx xs.length 0 lo = 0 ∧ HT.sIx xs.length xs.length hi = xs.length) : cutL xs lo hi = xs := by
  unfold cutL
  rw [h.1, h.2]
  simp
theorem RepL.cut {K : PySem.W.Frag} {G : Hp} {ds : List D} {vs : List V} (lo hi : Option Int) (h : RepL K G ds vs) : RepL K G (cutL ds lo hi) (cutV vs lo hi) := by
  unfold cutL cutV
  rw [h.length]
  exact (h.drop _).take _
section
variable {X : Cx} {W : WX} {A : Nat → Prop} {a b : Expr} {lo hi : Option Expr} {rest : List Expr} {pos p2 : Pos}
theorem do_none : DO X W A none oNone := po_none.imp fun σ H Q ⟨e, G, E, p⟩ => p.here E.sub
theorem do_some {f : Env → Res D} (h : DE X W A a f) : DO X W A (some a) (oSome f) :=
  (po_some h).imp fun σ H Q ⟨e, G, E, p⟩ => ⟨e, G, E, p.split.imp fun d H1 G1 x1 p1 v rv => by
    cases d with
    | int i => exact ⟨i, rv, p1.here x1.gh⟩
    | _ => exact (show False from p1).elim⟩
theorem de_cut {f : Env → Res D} {fl fh : Env → Res (Option Int)} (ha : DR X W A a f) (hl : DO X W A lo fl) (hh : DO X W A hi fh) : DE X W A (.Subscript a (.Slice lo hi none p2) pos) (eCut f fl fh) := by
  refine (pe_slice (SlR.or sl_tupA (SlR.or sl_list sl_str)) ha hl hh).imp fun σ H Q ⟨e, G, E, p⟩ => ?_
  refine ⟨e, G, E, p.split.imp fun d H1 G1 x1 p1 v rv => ⟨e, G1, E.ext x1, p1.split.imp fun l H2 G2 x2 p2 => ⟨e, G2, (E.ext x1).ext x2, p2.split.imp fun u H3 G3 x3 p3 => ?_⟩⟩⟩
  have rv := (rv.mono x2.hh x2.gg).mono x3.hh x3.gg
  have sg := x3.gh
  cases d with
  | tup ds =>
    obtain ⟨q, vs, eq, s, r⟩ := (show Rep X.K G3 (.tup ds) v from rv)
    refine .inl ⟨q, vs, eq, sg.pt s, fun hw => ?_, fun hw q2 hq => ?_⟩
    · refine PostG.val (d := .tup (cutL ds l u)) p3 sg ⟨q, vs, rfl, s, ?_⟩
      rw [r.length] at hw
      rw [cutL_all hw]
      exact r
    · exact (show PostG X.K X.mg _ H3 G3 (Res.ok (D.tup (cutL ds l u))) _ from p3) _ _ (Ext.laid sg hq) _ ⟨q2, _, rfl, upd_same, (r.cut l u).mono (Sub.upd (sg.free hq))⟩
  | lst ds =>
    obtain ⟨q, vs, eq, s, r⟩ := rv
    refine .inr (.inl ⟨q, vs, eq, s, fun q2 hq => ?_⟩)
    exact (show PostG X.K X.mg _ H3 G3 (Res.ok (D.lst (cutL ds l u))) _ from p3) _ _ (Ext.laid sg hq) _ ⟨q2, _, rfl, SqL.of upd_same, (r.cut l u).mono (Sub.upd (sg.free hq))⟩
  | str z =>
    dsimp only [dCut] at p3
    by_cases hz : z.length ≤ sizeLine
    · rw [if_pos hz] at p3
      exact .inr (.inr ⟨z, rv, hz, p3.val sg rfl⟩)
    · rw [if_neg hz] at p3; exact p3.elim
  | _ => exact (show False from p3).elim
end

/-! ### calls of built-ins -/
def e1 (g : D → Res D) (f : Env → Res D) : Env → Res D := fun e => (f e).bind g
/-- a call of one value: what it does on data -/
def Call1 (X : Cx) (W : WX) (f : Value) (g : D → Res D) : Prop :=
  ∃ r, CallR X f r ∧ ∀ (σ : L2.St) (H G : Hp) (x : V) (dx : D) (Q : VK), Sub G H → RepC X.K H G dx x →
    PostG X.K X.mg (fun c o H' => W c o σ H') H G (g dx) (fun d H' G' => ∀ v, Rep X.K G' d v → Q v H') → r [x] H Q
def Call2 (X : Cx) (W : WX) (f : Value) (g : D → D → Res D) : Prop :=
  ∃ r, CallR X f r ∧ ∀ (σ : L2.St) (H G : Hp) (x y : V) (dx dy : D) (Q : VK), Sub G H → RepC X.K H G dx x → RepC X.K H G dy y →
    PostG X.K X.mg (fun c o H' => W c o σ H') H G (g dx dy) (fun d H' G' => ∀ v, Rep X.K G' d v → Q v H') → r [x, y] H Q
/-- .. that makes a new list or dict -/
def Call1F (X : Cx) (W : WX) (f : Value) (g : D → Res D) : Prop :=
  ∃ r, CallR X f r ∧ ∀ (σ : L2.St) (H G : Hp) (x : V) (dx : D) (Q : VK), Sub G H → RepC X.K H G dx x →
    PostG X.K X.mg (fun c o H' => W c o σ H') H G (g dx) (fun d H' G' => ∀ a, H a = none → G' a = none → OwnC X.K H' G' d a → Q (.ref a) H') → r [x] H Q
section
variable {X : Cx} {W : WX} {A : Nat → Prop} {a b : Expr} {rest : List Expr} {x : Str} {p pos : Pos} {id T : String}
theorem de_b1 {g : D → Res D} {f : Env → Res D} (hc : Call1 X W (.builtin id) g) (hg : Gl X x) (hm : X.mg x = none) (hv : bootBuiltins x = some (.builtin id)) (ha : DR X W A a f) (hn : x ≠ "__name__" := by decide) (hdb : (x == ("__debug__" : Str)) = false := by decide)
    (he : starEach (a :: []) X.env = (false, eval a X.env) :: starEach [] X.env := by rfl) (hpl : (backTo pos (starEach [] X.env)).any (·.1) = false := by rfl) : DE X W A (.Call (.Name x p) [a] [] pos) (e1 g f) := by
  obtain ⟨r, h1, h2⟩ := hc
  exact (pe_callB h1 hg hm hv (pa_cons ha pa_nil he) hn hdb he hpl).imp fun σ H Q ⟨e, G, E, p⟩ => ⟨e, G, E, p.split.imp fun d H1 G1 x1 p1 v rv => h2 σ H1 G1 v d Q x1.gh rv p1⟩
theorem de_t1 {g : D → Res D} {f : Env → Res D} (hc : Call1 X W (.type T) g) (hg : Gl X x) (hm : X.mg x = none) (hv : bootBuiltins x = some (.type T)) (ha : DR X W A a f) (hn : x ≠ "__name__" := by decide) (hdb : (x == ("__debug__" : Str)) = false := by decide)
    (he : starEach (a :: []) X.env = (false, eval a X.env) :: starEach [] X.env := by rfl) (hpl : (backTo pos (starEach [] X.env)).any (·.1) = false := by rfl) : DE X W A (.Call (.Name x p) [a] [] pos) (e1 g f) := by
  obtain ⟨r, h1, h2⟩ := hc
  exact (pe_callTy h1 hg hm hv (pa_cons ha pa_nil he) hn hdb he hpl).imp fun σ H Q ⟨e, G, E, p⟩ => ⟨e, G, E, p.split.imp fun d H1 G1 x1 p1 v rv => h2 σ H1 G1 v d Q x1.gh rv p1⟩
theorem df_b1 {g : D → Res D} {f : Env → Res D} (hc : Call1F X W (.builtin id) g) (hg : Gl X x) (hm : X.mg x = none) (hv : bootBuiltins x = some (.builtin id)) (ha : DR X W A a f) (hn : x ≠ "__name__" := by decide) (hdb : (x == ("__debug__" : Str)) = false := by decide)
    (he : starEach (a :: []) X.env = (false, eval a X.env) :: starEach [] X.env := by rfl) (hpl : (backTo pos (starEach [] X.env)).any (·.1) = false := by rfl) : DF X W A (.Call (.Name x p) [a] [] pos) (e1 g f) := by
  obtain ⟨r, h1, h2⟩ := hc
  exact (pe_callB h1 hg hm hv (pa_cons ha pa_nil he) hn hdb he hpl).imp fun σ H Q ⟨e, G, E, p⟩ => ⟨e, G, E, p.split.imp fun d H1 G1 x1 p1 v rv => h2 σ H1 G1 v d Q x1.gh rv (p1.imp fun z H2 G2 x2 q c hc => q c (x1.hh.free hc))⟩
theorem df_t1 {g : D → Res D} {f : Env → Res D} (hc : Call1F X W (.type T) g) (hg : Gl X x) (hm : X.mg x = none) (hv : bootBuiltins x = some (.type T)) (ha : DR X W A a f) (hn : x ≠ "__name__" := by decide) (hdb : (x == ("__debug__" : Str)) = false := by decide)
    (he : starEach (a :: []) X.env = (false, eval a X.env) :: starEach [] X.env := by rfl) (hpl : (backTo pos (starEach [] X.env)).any (·.1) = false := by rfl) : DF X W A (.Call (.Name x p) [a] [] pos) (e1 g f) := by
  obtain ⟨r, h1, h2⟩ := hc
  exact (pe_callTy h1 hg hm hv (pa_cons ha pa_nil he) hn hdb he hpl).imp fun σ H Q ⟨e, G, E, p⟩ => ⟨e, G, E, p.split.imp fun d H1 G1 x1 p1 v rv => h2 σ H1 G1 v d Q x1.gh rv (p1.imp fun z H2 G2 x2 q c hc => q c (x1.hh.free hc))⟩
theorem de_b2 {g : D → D → Res D} {fa fb : Env → Res D} (hc : Call2 X W (.builtin id) g) (hg : Gl X x) (hm : X.mg x = none) (hv : bootBuiltins x = some (.builtin id)) (ha : DR X W A a fa) (hb : DR X W A b fb) (hn : x ≠ "__name__" := by decide) (hdb : (x == ("__debug__" : Str)) = false := by decide)
    (he : starEach (a :: [b]) X.env = (false, eval a X.env) :: starEach [b] X.env := by rfl) (he2 : starEach (b :: []) X.env = (false, eval b X.env) :: starEach [] X.env := by rfl) (hpl : (backTo pos (starEach [b] X.env)).any (·.1) = false := by rfl) : DE X W A (.Call (.Name x p) [a, b] [] pos) (eOp g fa fb) := by
  obtain ⟨r, h1, h2⟩ := hc
  refine (pe_callB h1 hg hm hv (pa_cons ha (pa_cons hb pa_nil he2) he) hn hdb he hpl).imp fun σ H Q ⟨e, G, E, p⟩ => ?_
  refine ⟨e, G, E, p.split.imp fun d H1 G1 x1 p1 v rv => ⟨e, G1, E.ext x1, p1.split.imp fun d2 H2 G2 x2 p2 u ru => h2 σ H2 G2 v u d d2 Q x2.gh (rv.mono x2.hh x2.gg) ru p2⟩⟩

/-! len, abs, max, min, int, list, tuple, sum .. -/
def rLenD : List V → Hp → VK → Prop := fun xs H Q => ∃ a n, xs = [V.ref a] ∧ ((∃ kvs, Rd H a (.dK kvs) ∧ n = kvs.length) ∨ ∃ kvs, Rd H a (.dT kvs) ∧ n = kvs.length) ∧ Q (.int ((n : Nat) : Int)) H
theorem cr_lenD : CallR X (.builtin "len") rLenD := by
  intro pins s σ H xs us Q I r h
  obtain ⟨a, n, rfl, hd, q⟩ := h
  obtain ⟨u, rfl, rx⟩ := vals1 r
  obtain rfl : u = .ref a := rx
  rcases hd with ⟨kvs, hk, rfl⟩ | ⟨kvs, hk, rfl⟩
  · exact d_len I hk fun t s' I' => ⟨.int _, H, I', ⟨_, rfl⟩, q⟩
  · obtain ⟨z, hd, ys, rel, dd⟩ := dt_rd I.hok hk
    have hl : kvs.length = ys.length := Paired.length rel
    refine call_len_dictH hd dd (by rw [← hl]; rw [PySem.sizeLine_eq] at z; omega) ?_
    rw [← hl]
    exact ⟨.int ((kvs.length : Nat) : Int), H, I.tok _, ⟨_, rfl⟩, q⟩
def dLen : D → Res D
  | .lst xs => .ok (.int xs.length)
  | .tup xs => .ok (.int xs.length)
  | .con xs => .ok (.int xs.length)
  | .str x => if x.length ≤ sizeLine then .ok (.int x.length) else .bad
  | .dct _ kvs => .ok (.int kvs.length)
  | _ => .bad
theorem c1_len : Call1 X W (.builtin "len") dLen := by
  refine ⟨_, CallR.or call_len cr_lenD, fun σ H G x dx Q sg rx p => ?_⟩
  cases dx with
  | lst ds =>
    obtain ⟨q, vs, e, s, r⟩ := rx
    subst e
    refine .inl ⟨_, vs.length, rfl, .inl ⟨vs, s, rfl⟩, ?_⟩
    rw [r.length]
    exact PostG.val (d := .int ds.length) p sg rfl
  | tup ds =>
    obtain ⟨q, vs, e, s, r⟩ := (show Rep X.K G (.tup ds) x from rx)
    subst e
    refine .inl ⟨_, vs.length, rfl, .inr ⟨vs, sg.pt s, rfl⟩, ?_⟩
    rw [r.length]
    exact PostG.val (d := .int ds.length) p sg rfl
  | con ds =>
    obtain ⟨q, vs, e, s, r⟩ := (show Rep X.K G (.con ds) x from rx)
    subst e
    refine .inl ⟨_, vs.length, rfl, .inr ⟨vs, sg.sqt s.sqt, rfl⟩, ?_⟩
    rw [r.length]
    exact PostG.val (d := .int ds.length) p sg rfl
  | dct t kvs =>
    obtain ⟨a, e, h⟩ := rx
    subst e
    have p' : Q (.int ((kvs.length : Nat) : Int)) H := PostG.val (d := .int kvs.length) p sg rfl
    rcases h with ⟨_, ps, h1, h2, _⟩ | ⟨_, ps, h1, h2, _⟩
    · have hl := congrArg List.length h2
      rw [List.length_map, List.length_map] at hl
      exact .inr ⟨a, ps.length, rfl, .inl ⟨ps, h1, rfl⟩, by rw [← hl]; exact p'⟩
    · have hl := congrArg List.length h2
      rw [List.length_map, List.length_map] at hl
      exact .inr ⟨a, ps.length, rfl, .inr ⟨ps, h1, rfl⟩, by rw [← hl]; exact p'⟩
  | str z =>
    have : x = .str z := rx
    subst this
    dsimp only [dLen] at p
    by_cases hz : z.length ≤ sizeLine
    · rw [if_pos hz] at p
      exact .inl ⟨_, z.length, rfl, ⟨hz, rfl⟩, p.val sg rfl⟩
    · rw [if_neg hz] at p; exact p.elim
  | _ => exact (show False from p).elim
def dInt : D → Res D
  | .int i => .ok (.int i)
  | .bl b => .ok (.int (if b = true then 1 else 0))
  | _ => .bad
theorem c1_int : Call1 X W (.type "int") dInt := by
  refine ⟨_, call_int1, fun σ H G x dx Q sg rx p => ?_⟩
  cases dx with
  | int i =>
    have : x = .int i := rx
    subst this
    exact .inl ⟨i, rfl, PostG.val (d := .int i) p sg rfl⟩
  | bl b =>
    have : x = .bl b := rx
    subst this
    exact .inr ⟨b, rfl, PostG.val (d := .int (if b = true then 1 else 0)) p sg rfl⟩
  | _ => exact (show False from p).elim
def dMax : D → D → Res D
  | .int i, .int j => .ok (.int (if j > i then j else i))
  | _, _ => .bad
def dMin : D → D → Res D
  | .int i, .int j => .ok (.int (if j < i then j else i))
  | _, _ => .bad
theorem c2_max (hc : X.calm = true) : Call2 X W (.builtin "max") dMax := by
  refine ⟨_, call_max2 hc, fun σ H G x y dx dy Q sg rx ry p => ?_⟩
  cases dx with
  | int i =>
    cases dy with
    | int j =>
      have h1 : x = .int i := rx
      have h2 : y = .int j := ry
      subst h1 h2
      exact ⟨i, j, rfl, PostG.val (d := .int (if j > i then j else i)) p sg rfl⟩
    | _ => exact (show False from p).elim
  | _ => exact (show False from p).elim
theorem c2_min (hc : X.calm = true) : Call2 X W (.builtin "min") dMin := by
  refine ⟨_, call_min2 hc, fun σ H G x y dx dy Q sg rx ry p => ?_⟩
  cases dx with
  | int i =>
    cases dy with
    | int j =>
      have h1 : x = .int i := rx
      have h2 : y = .int j := ry
      subst h1 h2
      exact ⟨i, j, rfl, PostG.val (d := .int (if j < i then j else i)) p sg rfl⟩
    | _ => exact (show False from p).elim
  | _ => exact (show False from p).elim
def dTuple : D → Res D
  | .lst xs => .ok (.tup xs)
  | .tup xs => .ok (.tup xs)
  | .con xs => .ok (.con xs)
  | _ => .bad
theorem c1_tuple : Call1 X W (.type "tuple") dTuple := by
  refine ⟨_, call_tuple_of, fun σ H G x dx Q sg rx p => ?_⟩
  cases dx with
  | lst ds =>
    obtain ⟨q, vs, e, s, r⟩ := rx
    subst e
    refine ⟨q, vs, rfl, .inl ⟨s, fun l hl => ?_⟩⟩
    exact (show PostG X.K X.mg _ H G (Res.ok (D.tup ds)) _ from p) _ _ (Ext.laid sg hl) _ ⟨l, vs, rfl, upd_same, r.mono (Sub.upd (sg.free hl))⟩
  | tup ds =>
    have rx : Rep X.K G (.tup ds) x := rx
    obtain ⟨q, vs, e, s, r⟩ := id rx
    subst e
    exact ⟨q, vs, rfl, .inr ⟨sg.pt s, PostG.val (d := .tup ds) p sg rx⟩⟩
  | con ds =>
    have rx : Rep X.K G (.con ds) x := rx
    obtain ⟨q, vs, e, s, r⟩ := id rx
    subst e
    exact ⟨q, vs, rfl, .inr ⟨sg.sqt s.sqt, PostG.val (d := .con ds) p sg rx⟩⟩
  | _ => exact (show False from p).elim
def dList : D → Res D
  | .lst xs => .ok (.lst xs)
  | .tup xs => .ok (.lst xs)
  | .con xs => .ok (.lst xs)
  | _ => .bad
theorem c1_list : Call1F X W (.type "list") dList := by
  refine ⟨_, call_list_of, fun σ H G x dx Q sg rx p => ?_⟩
  have fin : ∀ (ds : List D) (vs : List V), RepL X.K G ds vs → PostG X.K X.mg (fun c o H' => W c o σ H') H G (Res.ok (D.lst ds)) (fun d H' G' => ∀ a, H a = none → G' a = none → OwnC X.K H' G' d a → Q (.ref a) H') → ∀ l, H l = none → Q (.ref l) (upd H l (.lst vs)) :=
    fun ds vs r p l hl => p (upd H l (.lst vs)) G ⟨Sub.upd hl, Sub.refl _, sg.trans (Sub.upd hl), fun b z => .inl z⟩ l hl (sg.free hl) ⟨vs, upd_same, r⟩
  cases dx with
  | lst ds =>
    obtain ⟨q, vs, e, s, r⟩ := rx
    subst e
    exact ⟨q, vs, rfl, .inl s, fin ds vs r p⟩
  | tup ds =>
    obtain ⟨q, vs, e, s, r⟩ := (show Rep X.K G (.tup ds) x from rx)
    subst e
    exact ⟨q, vs, rfl, .inr (sg.pt s), fin ds vs r p⟩
  | con ds =>
    obtain ⟨q, vs, e, s, r⟩ := (show Rep X.K G (.con ds) x from rx)
    subst e
    exact ⟨q, vs, rfl, .inr (sg.sqt s.sqt), fin ds vs r p⟩
  | _ => exact (show False from p).elim
/-- the ints of a list of ints -/
def D.ints : List D → Option (List Int)
  | [] => some []
  | .int i :: r => (D.ints r).map fun ns => i :: ns
  | _ :: _ => none
theorem ints_eq : ∀ {ds : List D} {ns : List Int}, D.ints ds = some ns → ds = ns.map D.int
  | [], ns, h => by cases h; rfl
  | d :: r, ns, h => by
    cases d with
    | int i =>
      dsimp only [D.ints] at h
      cases e : D.ints r with
      | none => rw [e] at h; cases h
      | some ms => rw [e] at h; cases h; rw [ints_eq e]; rfl
    | _ => cases h
def dSum : D → Res D
  | .lst xs => match D.ints xs with
    | some ns => .ok (.int ns.sum)
    | none => .bad
  | _ => .bad
theorem c1_sum (hc : X.calm = true) : Call1 X W (.builtin "sum") dSum := by
  refine ⟨_, cr_sum hc, fun σ H G x dx Q sg rx p => ?_⟩
  cases dx with
  | lst ds =>
    obtain ⟨q, vs, e, s, r⟩ := rx
    subst e
    dsimp only [dSum] at p
    cases hi : D.ints ds with
    | none => rw [hi] at p; exact p.elim
    | some ns =>
      rw [hi] at p
      rw [ints_eq hi] at r
      rw [r.ints] at s
      exact ⟨q, ns, rfl, s, p.val sg rfl⟩
  | _ => exact (show False from p).elim
end
end DL

namespace DL
open PySem PySem.Spec PyProof.Rows L2
open PySem.Builtin.Int (intBits)

/-! ### statements -/
inductive Out where
  | nx (e : Env)
  | rt (d : D)
  | ro (d : D)
  | rm (d : D) (e : Env)
  | bk (e : Env)
  | ct (e : Env)
  | ex (c : String) (fs : List (D × D)) (e : Env)
  | bad

def unown (i : Nat) (e : Env) : Env := match e[i]? with
  | some (some (d, true)) => e.set i (some (d, false))
  | _ => e
/-- these names' lists and dicts are not changed any more -/
def fz : List Nat → Env → Env
  | [], e => e
  | i :: r, e => fz r (unown i e)
@[simp] theorem fz_nil (e : Env) : fz [] e = e := rfl
theorem unown_get (i : Nat) (e : Env) (j : Nat) : (unown i e)[j]? = if j = i then (match e[j]? with | some (some (d, _)) => some (some (d, false)) | z => z) else e[j]? := by
  unfold unown
  by_cases h : j = i
  · subst h
    rw [if_pos rfl]
    cases q : e[j]? with
    | none => simp only [q]
    | some s =>
      have hl : j < e.length := (List.getElem?_eq_some_iff.mp q).1
      cases s with
      | none => simp only [q]
      | some z =>
        obtain ⟨d, o⟩ := z
        cases o with
        | true => simp only []; rw [List.getElem?_set_self hl]
        | false => simp only [q]
  · rw [if_neg h]
    split
    · rw [List.getElem?_set_ne (Ne.symm h)]
    · rfl
theorem unown_length (i : Nat) (e : Env) : (unown i e).length = e.length := by
  unfold unown
  split
  · rw [List.length_set]
  · rfl
theorem fz_length : ∀ (al : List Nat) (e : Env), (fz al e).length = e.length
  | [], e => rfl
  | i :: r, e => by rw [fz, fz_length r, unown_length]
theorem fz_get : ∀ (al : List Nat) (e : Env) (j : Nat) (d : D) (o : Bool), (fz al e)[j]? = some (some (d, o)) → ∃ o', e[j]? = some (some (d, o')) ∧ ((o = o' ∧ (o' = true → j ∉ al)) ∨ (o = false ∧ o' = true ∧ j ∈ al))
  | [], e, j, d, o, h => ⟨o, h, .inl ⟨rfl, fun _ => by simp⟩⟩
  | i :: r, e, j, d, o, h => by
    obtain ⟨o1, h1, h2⟩ := fz_get r (unown i e) j d o h
    rw [unown_get] at h1
    by_cases hj : j = i
    · rw [if_pos hj] at h1
      cases q : e[j]? with
      | none => rw [q] at h1; cases h1
      | some s => cases s with
        | none => rw [q] at h1; cases h1
        | some z =>
          obtain ⟨d', o'⟩ := z
          rw [q] at h1
          cases h1
          rcases h2 with ⟨rfl, _⟩ | ⟨_, z, _⟩
          · cases o' with
            | true => exact ⟨true, rfl, .inr ⟨rfl, rfl, by simp [hj]⟩⟩
            | false => exact ⟨false, rfl, .inl ⟨rfl, fun z => by cases z⟩⟩
          · cases z
    · rw [if_neg hj] at h1
      refine ⟨o1, h1, ?_⟩
      rcases h2 with ⟨a, b⟩ | ⟨a, b, c⟩
      · exact .inl ⟨a, fun z => by simp [hj, b z]⟩
      · exact .inr ⟨a, b, by simp [c]⟩

/-- a def's entry: the caller's part of the heap, and where the lists and dicts stand that are lent to it to be changed -/
structure Bas where
  hp : Hp
  pin : Nat → Option Addr
/-- nothing is lent -/
abbrev Bas.of (H : Hp) : Bas := ⟨H, fun _ => none⟩
/-- the state between two statements: H0, G0 at the def's entry -/
structure StOk (K : PySem.W.Frag) (H0 : Bas) (G0 : Hp) (σ : L2.St) (e : Env) (H G : Hp) : Prop where
  ext : Ext H0.hp G0 H G
  len : σ.length = e.length
  sh : ∀ (i : Nat) d, e[i]? = some (some (d, false)) → ∃ v, σ[i]? = some (some v) ∧ Rep K G d v
  ow : ∀ (i : Nat) d, e[i]? = some (some (d, true)) → ∃ a, σ[i]? = some (some (.ref a)) ∧ H0.hp a = none ∧ G a = none ∧ OwnC K H G d a
  ne : ∀ (i j : Nat) d d' a, e[i]? = some (some (d, true)) → e[j]? = some (some (d', true)) → σ[i]? = some (some (.ref a)) → σ[j]? = some (some (.ref a)) → i = j
  pn : ∀ (i : Nat) a d, H0.pin i = some a → e[i]? = some (some (d, true)) → σ[i]? = some (some (.ref a))
/-- what a reckoning of the names at al may keep -/
def OwnAt (σ : L2.St) (e : Env) (al : List Nat) (b : Addr) : Prop := ∃ (i : Nat) (d : D), i ∈ al ∧ e[i]? = some (some (d, true)) ∧ σ[i]? = some (some (.ref b))
open Classical in
noncomputable def gA (σ : L2.St) (e : Env) (al : List Nat) (H G : Hp) : Hp := fun b => if OwnAt σ e al b then H b else G b
/-- no dict at al is owned -/
def NoDct (al : List Nat) (e : Env) : Prop := ∀ (i : Nat) d, i ∈ al → e[i]? = some (some (d, true)) → d.isDct = false
theorem StOk.exp0 {K : PySem.W.Frag} {H0 : Bas} {G0 H G : Hp} {σ : L2.St} {e : Env} (S : StOk K H0 G0 σ e H G) (al : List Nat) (nd : NoDct al e) :
    ∃ GA, EnvG K (fun i => i ∈ al) σ e H GA ∧ ∀ H' G', Ext H GA H' G' → StOk K H0 G0 σ (fz al e) H' G' := by
  have yes : ∀ {b : Addr}, OwnAt σ e al b → gA σ e al H G b = H b := fun h => if_pos h
  have no : ∀ {b : Addr}, ¬ OwnAt σ e al b → gA σ e al H G b = G b := fun h => if_neg h
  have gown : ∀ {b : Addr}, OwnAt σ e al b → G b = none := fun {b} ⟨i, d, _, h1, h2⟩ => by
    obtain ⟨a, q1, _, q2, _⟩ := S.ow i d h1
    rw [h2] at q1; cases q1; exact q2
  have s1 : Sub G (gA σ e al H G) := fun b o q => by
    by_cases h : OwnAt σ e al b
    · rw [gown h] at q; cases q
    · rw [no h]; exact q
  have s2 : Sub (gA σ e al H G) H := fun b o q => by
    by_cases h : OwnAt σ e al b
    · rw [yes h] at q; exact q
    · rw [no h] at q; exact S.ext.gh _ _ q
  have keep : ∀ (i : Nat) (d : D), i ∈ al → e[i]? = some (some (d, true)) → ∃ v, σ[i]? = some (some v) ∧ Rep K (gA σ e al H G) d v := fun i d hi h => by
    obtain ⟨a, q1, _, _, q5⟩ := S.ow i d h
    exact ⟨_, q1, q5.put (nd i d hi h) s1 (yes ⟨i, d, hi, h, q1⟩)⟩
  refine ⟨gA σ e al H G, ⟨s2, S.len, fun i d o h => ?_⟩, fun H' G' x => ?_⟩
  · cases o with
    | false =>
      obtain ⟨v, q1, q2⟩ := S.sh i d h
      exact ⟨v, q1, fun _ => q2.mono s1, (q2.c S.ext.gh).mono (Sub.refl _) s1⟩
    | true =>
      obtain ⟨a, q1, q2, q3, q5⟩ := S.ow i d h
      refine ⟨_, q1, fun z => ?_, q5.c.mono (Sub.refl _) s1⟩
      rcases z with z | z
      · exact q5.put (nd i d z h) s1 (yes ⟨i, d, z, h, q1⟩)
      · cases z
  · refine ⟨⟨S.ext.hh.trans x.hh, S.ext.gg.trans (s1.trans x.gg), x.gh, fun b z => ?_⟩, by rw [fz_length]; exact S.len, fun i d h => ?_, fun i d h => ?_, fun i j d d' a h1 h2 h3 h4 => ?_, fun i a d hp h => ?_⟩
    · rcases x.new b z with z | z
      · by_cases h : OwnAt σ e al b
        · obtain ⟨i, d, _, h1, h2⟩ := h
          obtain ⟨a, q1, q2, _⟩ := S.ow i d h1
          rw [h2] at q1; cases q1; exact .inr (.inl q2)
        · rw [no h] at z; exact S.ext.new b z
      · exact .inr (z.back S.ext.hh)
    · obtain ⟨o', h1, h2⟩ := fz_get al e i d false h
      rcases h2 with ⟨rfl, _⟩ | ⟨_, rfl, hi⟩
      · obtain ⟨v, q1, q2⟩ := S.sh i d h1
        exact ⟨v, q1, q2.mono (s1.trans x.gg)⟩
      · obtain ⟨v, q1, q2⟩ := keep i d hi h1
        exact ⟨v, q1, q2.mono x.gg⟩
    · obtain ⟨o', h1, h2⟩ := fz_get al e i d true h
      rcases h2 with ⟨rfl, hi⟩ | ⟨z, _⟩
      · obtain ⟨a, q1, q2, q3, q5⟩ := S.ow i d h1
        refine ⟨a, q1, q2, ?_, q5.mono x.hh (s1.trans x.gg)⟩
        cases hg : G' a with
        | none => rfl
        | some u =>
          rcases x.new a (by rw [hg]; simp) with z | z
          · have nown : ¬ OwnAt σ e al a := fun ⟨j, d', hj, w1, w2⟩ => hi rfl (by rw [S.ne i j d d' a h1 w1 q1 w2]; exact hj)
            rw [no nown] at z
            exact absurd q3 z
          · exact absurd z q5.nfr
      · cases z
    · obtain ⟨o1, w1, z1⟩ := fz_get al e i d true h1
      obtain ⟨o2, w2, z2⟩ := fz_get al e j d' true h2
      have e1 : o1 = true := by rcases z1 with ⟨z, _⟩ | ⟨z, _⟩; exact z.symm; cases z
      have e2 : o2 = true := by rcases z2 with ⟨z, _⟩ | ⟨z, _⟩; exact z.symm; cases z
      subst e1 e2
      exact S.ne i j d d' a w1 w2 h3 h4
    · obtain ⟨o1, w1, z1⟩ := fz_get al e i d true h
      have e1 : o1 = true := by rcases z1 with ⟨z, _⟩ | ⟨z, _⟩; exact z.symm; cases z
      subst e1
      exact S.pn i a d hp w1

theorem set_get {α : Type} {e : List α} {i j : Nat} {x y : α} (h : (e.set i x)[j]? = some y) : (j = i ∧ y = x) ∨ (j ≠ i ∧ e[j]? = some y) := by
  by_cases hj : j = i
  · subst hj
    by_cases hl : j < e.length
    · rw [List.getElem?_set_self hl] at h; cases h; exact .inl ⟨rfl, rfl⟩
    · rw [List.getElem?_eq_none (by simpa using hl)] at h; cases h
  · rw [List.getElem?_set_ne (Ne.symm hj)] at h; exact .inr ⟨hj, h⟩
/-! the dicts at al are locked -/
def unownD (i : Nat) (e : Env) : Env := match e[i]? with
  | some (some (.dct t kvs, true)) => e.set i (some (.dct t kvs, false))
  | _ => e
def fzD : List Nat → Env → Env
  | [], e => e
  | i :: r, e => fzD r (unownD i e)
theorem unownD_get (i : Nat) (e : Env) (j : Nat) (d : D) (o : Bool) (h : (unownD i e)[j]? = some (some (d, o))) : ∃ o', e[j]? = some (some (d, o')) ∧ ((o = o' ∧ (o' = true → j = i → d.isDct = false)) ∨ (o = false ∧ o' = true ∧ j = i)) := by
  unfold unownD at h
  split at h
  · rename_i t kvs he
    by_cases hj : j = i
    · subst hj
      have hl : j < e.length := (List.getElem?_eq_some_iff.mp he).1
      rw [List.getElem?_set_self hl] at h
      cases h
      exact ⟨true, he, .inr ⟨rfl, rfl, rfl⟩⟩
    · rw [List.getElem?_set_ne (Ne.symm hj)] at h
      exact ⟨o, h, .inl ⟨rfl, fun _ z => absurd z hj⟩⟩
  · rename_i hn
    refine ⟨o, h, .inl ⟨rfl, fun z w => ?_⟩⟩
    subst z w
    cases d with
    | dct t kvs => exact absurd h (hn t kvs)
    | _ => rfl
theorem fzD_length : ∀ (al : List Nat) (e : Env), (fzD al e).length = e.length
  | [], e => rfl
  | i :: r, e => by
    rw [fzD, fzD_length r]
    unfold unownD
    split
    · rw [List.length_set]
    · rfl
theorem fzD_get : ∀ (al : List Nat) (e : Env) (j : Nat) (d : D) (o : Bool), (fzD al e)[j]? = some (some (d, o)) → ∃ o', e[j]? = some (some (d, o')) ∧ ((o = o' ∧ (o' = true → j ∈ al → d.isDct = false)) ∨ (o = false ∧ o' = true ∧ j ∈ al))
  | [], e, j, d, o, h => ⟨o, h, .inl ⟨rfl, fun _ z => by cases z⟩⟩
  | i :: r, e, j, d, o, h => by
    obtain ⟨o1, h1, h2⟩ := fzD_get r (unownD i e) j d o h
    obtain ⟨o2, h3, h4⟩ := unownD_get i e j d o1 h1
    refine ⟨o2, h3, ?_⟩
    rcases h2 with ⟨rfl, a⟩ | ⟨rfl, rfl, a⟩
    · rcases h4 with ⟨rfl, b⟩ | ⟨rfl, rfl, rfl⟩
      · refine .inl ⟨rfl, fun z w => ?_⟩
        rcases List.mem_cons.mp w with w | w
        · exact b z w
        · exact a z w
      · exact .inr ⟨rfl, rfl, List.mem_cons_self⟩
    · rcases h4 with ⟨rfl, b⟩ | ⟨z, _, _⟩
      · exact .inr ⟨rfl, rfl, List.mem_cons_of_mem _ a⟩
      · cases z
theorem fzD_keep : ∀ (al : List Nat) (e : Env) (j : Nat) (d : D) (o : Bool), e[j]? = some (some (d, o)) → ∃ o', (fzD al e)[j]? = some (some (d, o')) ∧ (o = false → o' = false)
  | [], e, j, d, o, h => ⟨o, h, id⟩
  | i :: r, e, j, d, o, h => by
    have step : ∃ o', (unownD i e)[j]? = some (some (d, o')) ∧ (o = false → o' = false) := by
      unfold unownD
      split
      · rename_i t kvs he
        by_cases hj : j = i
        · subst hj
          have hl : j < e.length := (List.getElem?_eq_some_iff.mp he).1
          rw [he] at h; cases h
          exact ⟨false, List.getElem?_set_self hl, fun _ => rfl⟩
        · exact ⟨o, by rw [List.getElem?_set_ne (Ne.symm hj)]; exact h, id⟩
      · exact ⟨o, h, id⟩
    obtain ⟨o1, h1, h2⟩ := step
    obtain ⟨o2, h3, h4⟩ := fzD_keep r (unownD i e) j d o1 h1
    exact ⟨o2, h3, fun z => h4 (h2 z)⟩
theorem fzD_none : ∀ (al : List Nat) (e : Env) (j : Nat), (∀ d o, e[j]? ≠ some (some (d, o))) → (fzD al e)[j]? = e[j]?
  | [], e, j, h => rfl
  | i :: r, e, j, h => by
    have step : (unownD i e)[j]? = e[j]? := by
      unfold unownD
      split
      · rename_i t kvs he
        by_cases hj : j = i
        · subst hj; exact absurd he (h _ _)
        · rw [List.getElem?_set_ne (Ne.symm hj)]
      · rfl
    rw [fzD, fzD_none r (unownD i e) j (fun d o => by rw [step]; exact h d o), step]
/-- the flags alone are other -/
theorem env_ext {a b : Env} (h : ∀ j : Nat, a[j]? = b[j]?) : a = b := List.ext_getElem? h
theorem fz_is (al : List Nat) (e : Env) (j : Nat) (d : D) (o : Bool) (h : e[j]? = some (some (d, o))) : (fz al e)[j]? = some (some (d, if j ∈ al then false else o)) := by
  induction al generalizing e o with
  | nil => rw [if_neg (by simp)]; exact h
  | cons i r ih =>
    rw [fz]
    have hu : (unown i e)[j]? = some (some (d, if j = i then false else o)) := by
      rw [unown_get]
      by_cases hj : j = i
      · rw [if_pos hj, h, if_pos hj]
      · rw [if_neg hj, h, if_neg hj]
    rw [ih _ _ hu]
    by_cases h1 : j ∈ r
    · rw [if_pos h1, if_pos (List.mem_cons_of_mem _ h1)]
    · rw [if_neg h1]
      by_cases h2 : j = i
      · rw [if_pos h2, if_pos (by simp [h2])]
      · rw [if_neg h2, if_neg (by simp [h1, h2])]
theorem fz_none (al : List Nat) (e : Env) (j : Nat) (h : ∀ d o, e[j]? ≠ some (some (d, o))) : (fz al e)[j]? = e[j]? := by
  induction al generalizing e with
  | nil => rfl
  | cons i r ih =>
    have step : (unown i e)[j]? = e[j]? := by
      rw [unown_get]
      by_cases hj : j = i
      · rw [if_pos hj]
        split
        · rename_i d o he; exact absurd he (h d o)
        · rfl
      · rw [if_neg hj]
    rw [fz, ih _ (fun d o => by rw [step]; exact h d o), step]
theorem fz_fzD (al : List Nat) (e : Env) : fz al (fzD al e) = fz al e := env_ext fun j => by
  by_cases h : ∃ d o, e[j]? = some (some (d, o))
  · obtain ⟨d, o, h⟩ := h
    obtain ⟨o1, h1, h2⟩ := fzD_keep al e j d o h
    obtain ⟨o2, h3, h4⟩ := fzD_get al e j d o1 h1
    rw [h] at h3; cases h3
    rw [fz_is al _ j d o1 h1, fz_is al e j d o h]
    by_cases hj : j ∈ al
    · rw [if_pos hj, if_pos hj]
    · rw [if_neg hj, if_neg hj]
      rcases h4 with ⟨rfl, _⟩ | ⟨_, _, z⟩
      · rfl
      · exact absurd z hj
  · have n : ∀ d o, e[j]? ≠ some (some (d, o)) := fun d o z => h ⟨d, o, z⟩
    have n2 := fzD_none al e j n
    rw [fz_none al _ j (fun d o => by rw [n2]; exact n d o), fz_none al e j n, n2]
theorem fzD_nd (al : List Nat) (e : Env) : NoDct al (fzD al e) := fun i d hi h => by
  obtain ⟨o', h1, h2⟩ := fzD_get al e i d true h
  rcases h2 with ⟨rfl, z⟩ | ⟨z, _⟩
  · exact z rfl hi
  · cases z
theorem StOk.lock {K : PySem.W.Frag} {H0 : Bas} {G0 : Hp} {σ : L2.St} : ∀ (al : List Nat) {e : Env} {H G : Hp}, StOk K H0 G0 σ e H G → LockT (fun H1 => ∃ G1, StOk K H0 G0 σ (fzD al e) H1 G1) H
  | [], _, _, G, S => .here ⟨G, S⟩
  | i :: r, e, H, G, S => by
    have step : LockT (fun H1 => ∃ G1, StOk K H0 G0 σ (unownD i e) H1 G1) H := by
      unfold unownD
      split
      · rename_i t kvs he
        obtain ⟨a, q1, q2, q3, q5⟩ := S.ow i _ he
        obtain ⟨u, hu, mu, _⟩ := q5.lock rfl (Sub.refl G)
        refine .lock hu mu fun od => .here ⟨upd G a (.frz od u), ?_⟩
        have sg : Sub G (upd G a (.frz od u)) := Sub.upd q3
        have n0 : ∀ {b o}, H0.hp b = some o → b ≠ a := fun {b o} z w => by rw [w, q2] at z; cases z
        refine ⟨⟨fun b o z => by rw [upd_ne (n0 z)]; exact S.ext.hh _ _ z, S.ext.gg.trans sg, fun b o z => ?_, fun b z => ?_⟩, by rw [List.length_set]; exact S.len, fun j d' h => ?_, fun j d' h => ?_, fun j k d1 d2 b h1 h2 h3 h4 => ?_, fun j b d' hp h => ?_⟩
        · by_cases hb : b = a
          · subst hb; rw [upd_same] at z ⊢; exact z
          · rw [upd_ne hb] at z ⊢; exact S.ext.gh _ _ z
        · by_cases hb : b = a
          · subst hb; exact .inr (.inl q2)
          · rw [upd_ne hb] at z; exact S.ext.new b z
        · rcases set_get h with ⟨rfl, z⟩ | ⟨hj, z⟩
          · cases z
            obtain ⟨u', hu', _, k⟩ := q5.lock rfl sg
            rw [hu] at hu'; cases hu'
            exact ⟨_, q1, k od upd_same⟩
          · obtain ⟨v, w1, w2⟩ := S.sh j d' z
            exact ⟨v, w1, w2.mono sg⟩
        · rcases set_get h with ⟨_, z⟩ | ⟨hj, z⟩
          · cases z
          · obtain ⟨b, w1, w2, w3, w4⟩ := S.ow j d' z
            have nb : b ≠ a := fun q => hj (S.ne j i d' _ a z he (by rw [w1, q]) q1)
            exact ⟨b, w1, w2, by rw [upd_ne nb]; exact w3, w4.mono' (fun o' z => by rw [upd_ne nb]; exact z) sg⟩
        · rcases set_get h1 with ⟨_, z⟩ | ⟨hj, z1⟩
          · cases z
          · rcases set_get h2 with ⟨_, z⟩ | ⟨hk, z2⟩
            · cases z
            · exact S.ne j k d1 d2 b z1 z2 h3 h4
        · rcases set_get h with ⟨_, z⟩ | ⟨hj, z⟩
          · cases z
          · exact S.pn j b d' hp z
      · exact .here ⟨G, S⟩
    exact step.bind fun H1 ⟨G1, S1⟩ => StOk.lock r S1
theorem fz_fzD_own {al : List Nat} {e : Env} {j : Nat} {d : D} (h : (fz al e)[j]? = some (some (d, true))) : (fzD al e)[j]? = some (some (d, true)) := by
  rw [← fz_fzD] at h
  obtain ⟨o', w1, w2⟩ := fz_get al _ j d true h
  have e1 : o' = true := by rcases w2 with ⟨z, _⟩ | ⟨z, _⟩; exact z.symm; cases z
  rw [e1] at w1
  exact w1
/-- a reckoning's state: the dicts that are handed on are locked -/
theorem StOk.exp {K : PySem.W.Frag} {H0 : Bas} {G0 H G : Hp} {σ : L2.St} {e : Env} (S : StOk K H0 G0 σ e H G) (al : List Nat) :
    LockT (fun H1 => ∃ G1 GA, StOk K H0 G0 σ (fzD al e) H1 G1 ∧ EnvG K (fun i => i ∈ al) σ e H1 GA ∧ ∀ H' G', Ext H1 GA H' G' → StOk K H0 G0 σ (fz al e) H' G') H :=
  (S.lock al).imp fun H1 ⟨G1, S1⟩ => by
    obtain ⟨GA, E, nxt⟩ := S1.exp0 al (fzD_nd al e)
    refine ⟨G1, GA, S1, ⟨E.sub, by rw [E.len, fzD_length], fun i d o h => ?_⟩, fun H' G' x => by rw [← fz_fzD]; exact nxt H' G' x⟩
    obtain ⟨o1, h1, h2⟩ := fzD_keep al e i d o h
    obtain ⟨v, w1, w2, w3⟩ := E.val i d o1 h1
    exact ⟨v, w1, fun z => w2 (z.imp id h2), w3⟩

/-! a name is stored -/
section
variable {K : PySem.W.Frag} {H0 : Bas} {G0 H G : Hp} {σ : L2.St} {e : Env}
theorem StOk.lt (S : StOk K H0 G0 σ e H G) {i : Nat} {s : Sl} {x : Sl} (h : (e.set i x)[i]? = some s) : i < σ.length := by
  by_cases hl : i < e.length
  · rw [S.len]; exact hl
  · rw [List.getElem?_eq_none (by simpa using hl)] at h; cases h
theorem StOk.set (S : StOk K H0 G0 σ e H G) (i : Nat) {d : D} {v : V} (r : Rep K G d v) : StOk K H0 G0 (σ.set i (some v)) (e.set i (some (d, false))) H G := by
  refine ⟨S.ext, by rw [List.length_set, List.length_set]; exact S.len, fun j d' h => ?_, fun j d' h => ?_, fun j k d1 d2 a h1 h2 h3 h4 => ?_, fun j a d' hp h => ?_⟩
  · rcases set_get h with ⟨rfl, z⟩ | ⟨hj, z⟩
    · cases z
      exact ⟨v, List.getElem?_set_self (S.lt h), r⟩
    · obtain ⟨w, q1, q2⟩ := S.sh j d' z
      exact ⟨w, by rw [List.getElem?_set_ne (Ne.symm hj)]; exact q1, q2⟩
  · rcases set_get h with ⟨_, z⟩ | ⟨hj, z⟩
    · cases z
    · obtain ⟨a, q1, q2⟩ := S.ow j d' z
      exact ⟨a, by rw [List.getElem?_set_ne (Ne.symm hj)]; exact q1, q2⟩
  · rcases set_get h1 with ⟨_, z⟩ | ⟨hj, z1⟩
    · cases z
    · rcases set_get h2 with ⟨_, z⟩ | ⟨hk, z2⟩
      · cases z
      · rw [List.getElem?_set_ne (Ne.symm hj)] at h3
        rw [List.getElem?_set_ne (Ne.symm hk)] at h4
        exact S.ne j k d1 d2 a z1 z2 h3 h4
  · rcases set_get h with ⟨_, z⟩ | ⟨hj, z⟩
    · cases z
    · rw [List.getElem?_set_ne (Ne.symm hj)]; exact S.pn j a d' hp z
theorem StOk.setF (S : StOk K H0 G0 σ e H G) (i : Nat) {d : D} {a : Addr} {Hb : Hp} (hb : Sub H0.hp Hb) (ho : ∀ (j : Nat) d b, e[j]? = some (some (d, true)) → σ[j]? = some (some (.ref b)) → Hb b ≠ none) (ha : Hb a = none) (ga : G a = none) (rc : OwnC K H G d a) (hpin : H0.pin i = none) :
    StOk K H0 G0 (σ.set i (some (.ref a))) (e.set i (some (d, true))) H G := by
  have other : ∀ (j : Nat) d' b, e[j]? = some (some (d', true)) → σ[j]? = some (some (.ref b)) → b ≠ a := fun j d' b h1 h2 z => ho j d' b h1 h2 (by rw [z]; exact ha)
  refine ⟨S.ext, by rw [List.length_set, List.length_set]; exact S.len, fun j d' h => ?_, fun j d' h => ?_, fun j k d1 d2 b h1 h2 h3 h4 => ?_, fun j b d' hp h => ?_⟩
  · rcases set_get h with ⟨_, z⟩ | ⟨hj, z⟩
    · cases z
    · obtain ⟨w, q1, q2⟩ := S.sh j d' z
      exact ⟨w, by rw [List.getElem?_set_ne (Ne.symm hj)]; exact q1, q2⟩
  · rcases set_get h with ⟨rfl, z⟩ | ⟨hj, z⟩
    · cases z
      exact ⟨a, List.getElem?_set_self (S.lt h), hb.free ha, ga, rc⟩
    · obtain ⟨b, q1, q2⟩ := S.ow j d' z
      exact ⟨b, by rw [List.getElem?_set_ne (Ne.symm hj)]; exact q1, q2⟩
  · rcases set_get h1 with ⟨rfl, z1⟩ | ⟨hj, z1⟩
    · rw [List.getElem?_set_self (S.lt h1)] at h3
      cases h3
      rcases set_get h2 with ⟨e2, _⟩ | ⟨hk, z2⟩
      · exact e2.symm
      · rw [List.getElem?_set_ne (Ne.symm hk)] at h4
        exact absurd rfl (other k d2 a z2 h4)
    · rw [List.getElem?_set_ne (Ne.symm hj)] at h3
      rcases set_get h2 with ⟨rfl, _⟩ | ⟨hk, z2⟩
      · rw [List.getElem?_set_self (S.lt h2)] at h4
        cases h4
        exact absurd rfl (other j d1 a z1 h3)
      · rw [List.getElem?_set_ne (Ne.symm hk)] at h4
        exact S.ne j k d1 d2 b z1 z2 h3 h4
  · rcases set_get h with ⟨rfl, _⟩ | ⟨hj, z⟩
    · rw [hpin] at hp; cases hp
    · rw [List.getElem?_set_ne (Ne.symm hj)]; exact S.pn j b d' hp z
/-- the list or dict of a name is changed -/
theorem StOk.change (S : StOk K H0 G0 σ e H G) {i : Nat} {d d' : D} {a : Addr} {o : HO} (h : e[i]? = some (some (d, true))) (hs : σ[i]? = some (some (.ref a))) (rc : OwnC K (upd H a o) G d' a) :
    StOk K H0 G0 σ (e.set i (some (d', true))) (upd H a o) G := by
  obtain ⟨a', q1, q2, q3, q5⟩ := S.ow i d h
  rw [hs] at q1; cases q1
  have il : i < e.length := (List.getElem?_eq_some_iff.mp h).1
  have nG : ∀ {b u}, G b = some u → b ≠ a := fun {b u} z w => by rw [w, q3] at z; cases z
  have n0 : ∀ {b u}, H0.hp b = some u → b ≠ a := fun {b u} z w => by rw [w, q2] at z; cases z
  refine ⟨⟨fun b u z => by rw [upd_ne (n0 z)]; exact S.ext.hh _ _ z, S.ext.gg, fun b u z => by rw [upd_ne (nG z)]; exact S.ext.gh _ _ z, S.ext.new⟩, by rw [List.length_set]; exact S.len, fun j d1 h1 => ?_, fun j d1 h1 => ?_, fun j k d1 d2 b h1 h2 h3 h4 => ?_, fun j b d1 hp h1 => ?_⟩
  · rcases set_get h1 with ⟨_, z⟩ | ⟨hj, z⟩
    · cases z
    · exact S.sh j d1 z
  · rcases set_get h1 with ⟨rfl, z⟩ | ⟨hj, z⟩
    · cases z
      exact ⟨a, hs, q2, q3, rc⟩
    · obtain ⟨b, w1, w2, w3, w5⟩ := S.ow j d1 z
      have nb : b ≠ a := fun q => hj (S.ne j i d1 d b z h w1 (by rw [q]; exact hs))
      exact ⟨b, w1, w2, w3, w5.mono' (fun o' z => by rw [upd_ne nb]; exact z) (Sub.refl _)⟩
  · have k1 : ∃ d', e[j]? = some (some (d', true)) := by
      rcases set_get h1 with ⟨rfl, _⟩ | ⟨_, z⟩
      · exact ⟨d, h⟩
      · exact ⟨_, z⟩
    have k2 : ∃ d', e[k]? = some (some (d', true)) := by
      rcases set_get h2 with ⟨rfl, _⟩ | ⟨_, z⟩
      · exact ⟨d, h⟩
      · exact ⟨_, z⟩
    obtain ⟨x1, y1⟩ := k1
    obtain ⟨x2, y2⟩ := k2
    exact S.ne j k x1 x2 b y1 y2 h3 h4
  · rcases set_get h1 with ⟨rfl, _⟩ | ⟨_, z⟩
    · exact S.pn j b d hp h
    · exact S.pn j b d1 hp z
end
end DL

namespace DL
open PySem PySem.Spec PyProof.Rows L2
open PySem.Builtin.Int (intBits)

def SPost (K : PySem.W.Frag) (mg : Str → Option Value) (W : WX) (H0 : Bas) (G0 : Hp) (r : Out) (Z : Ends) : Prop := match r with
  | .nx e' => ∀ σ' H' G', StOk K H0 G0 σ' e' H' G' → Z.nx σ' H'
  | .bk e' => ∀ σ' H' G', StOk K H0 G0 σ' e' H' G' → Z.bk σ' H'
  | .ct e' => ∀ σ' H' G', StOk K H0 G0 σ' e' H' G' → Z.ct σ' H'
  | .rt d => ∀ v H' G', Ext H0.hp G0 H' G' → Rep K G' d v → Z.rt v H'
  | .ro d => ∀ a H' G', Ext H0.hp G0 H' G' → H0.hp a = none → G' a = none → OwnC K H' G' d a → Z.rt (.ref a) H'
  | .rm d e' => ∀ v σ' H' G', StOk K H0 G0 σ' e' H' G' → Rep K G' d v → Z.rt v H'
  | .ex c fs e' => ∀ cls o σ' H' G' H'', StOk K H0 G0 σ' e' H' G' → Sub H' H'' → IsExc K mg c fs cls o H' H'' → W cls o σ' H''
  | .bad => False
def tS (K : PySem.W.Frag) (mg : Str → Option Value) (W : WX) (H0 : Bas) (G0 : Hp) (f : Env → Out) : TS := fun Z σ H => ∃ e G, StOk K H0 G0 σ e H G ∧ SPost K mg W H0 G0 (f e) Z
abbrev DS (X : Cx) (W : WX) (H0 : Bas) (G0 : Hp) (st : Stmt) (f : Env → Out) : Prop := PS X st (tS X.K X.mg W H0 G0 f)
abbrev DSs (X : Cx) (W : WX) (H0 : Bas) (G0 : Hp) (st : List Stmt) (f : Env → Out) : Prop := PSs X st (tS X.K X.mg W H0 G0 f)

/-- a reckoning, then what follows -/
def sE {α : Type} (al : List Nat) (f : Env → Res α) (k : α → Env → Out) : Env → Out := fun e => match f e with
  | .ok a => k a (fz al e)
  | .exc c fs => .ex c fs (fz al e)
  | .bad => .bad
section
variable {X : Cx} {W : WX} {H0 : Bas} {G0 : Hp}
theorem sE_step {al : List Nat} {α : Type} {f : Env → Res α} {k : α → Env → Out} {σ : L2.St} {H : Hp} {Z : Ends} (h : tS X.K X.mg W H0 G0 (sE al f k) Z σ H) :
    LockT (fun H => ∃ e G, EnvG X.K (fun i => i ∈ al) σ e H G ∧ PostG X.K X.mg (fun c o H' => W c o σ H') H G (f e) fun a H' G' => StOk X.K H0 G0 σ (fz al e) H' G' ∧ SPost X.K X.mg W H0 G0 (k a (fz al e)) Z) H := by
  obtain ⟨e, G, S, p⟩ := h
  refine (S.exp al).imp fun H ⟨G1, GA, S1, E, nxt⟩ => ?_
  refine ⟨e, GA, E, ?_⟩
  unfold sE at p
  cases hr : f e with
  | ok a =>
    rw [hr] at p
    exact fun H' G' x => ⟨nxt H' G' x, p⟩
  | exc c fs =>
    rw [hr] at p
    exact fun cls o H' s ix => p cls o σ H GA H' (nxt H GA (Ext.refl E.sub)) s ix
  | bad =>
    rw [hr] at p
    exact p.elim

/-! ### the plain statements -/
variable {al : List Nat} {st : Stmt} {rest : List Stmt} {ex : Expr} {pos : Pos}
def sSkip : Env → Out := fun e => .nx e
def sSeq (f g : Env → Out) : Env → Out := fun e => match f e with
  | .nx e' => g e'
  | r => r
theorem dss_nil : DSs X W H0 G0 [] sSkip := pss_nil.imp fun Z σ H ⟨e, G, S, p⟩ => p σ H G S
theorem dss_cons {f g : Env → Out} (h1 : DS X W H0 G0 st f) (h2 : DSs X W H0 G0 rest g) : DSs X W H0 G0 (st :: rest) (sSeq f g) :=
  (pss_cons h1 h2).imp fun Z σ H ⟨e, G, S, p⟩ => ⟨e, G, S, by
    unfold sSeq at p
    cases hr : f e with
    | nx e' => rw [hr] at p; exact fun σ' H' G' S' => ⟨e', G', S', p⟩
    | rt d => rw [hr] at p; exact p
    | ro d => rw [hr] at p; exact p
    | rm d e' => rw [hr] at p; exact p
    | bk e' => rw [hr] at p; exact p
    | ct e' => rw [hr] at p; exact p
    | ex c fs e' => rw [hr] at p; exact p
    | bad => rw [hr] at p; exact p⟩
def sBreak : Env → Out := fun e => .bk e
def sCont : Env → Out := fun e => .ct e
def sRet (al : List Nat) (f : Env → Res D) : Env → Out := sE al f fun d _ => .rt d
theorem ds_ret {f : Env → Res D} (h : DE X W (fun i => i ∈ al) ex f) : DS X W H0 G0 (.Return (some ex) pos) (sRet al f) :=
  (ps_ret h).lk fun Z σ H hq => (sE_step hq).imp fun H ⟨e, G, E, p⟩ => by
    exact ⟨e, G, E, p.imp fun d H' G' x ⟨S, q⟩ v r => q v H' G' S.ext r⟩
/-- return x, x a list or dict of its own -/
def sRetO (i : Nat) : Env → Out := fun e => match e[i]? with
  | some (some (d, true)) => .ro d
  | some (some (d, false)) => .rt d
  | _ => .bad
/-- return of a new list or dict -/
def sRetF (al : List Nat) (f : Env → Res D) : Env → Out := sE al f fun d _ => .ro d
def sRetN : Env → Out := fun _ => .rt .non
def sIf (al : List Nat) (ft : Env → Res Bool) (f g : Env → Out) : Env → Out := sE al ft fun b e => if b = true then f e else g e
theorem ds_if {c : Expr} {a b : List Stmt} {ft : Env → Res Bool} {f g : Env → Out} (hc : DT X W (fun i => i ∈ al) c ft) (ha : DSs X W H0 G0 a f) (hb : DSs X W H0 G0 b g) : DS X W H0 G0 (.If c a b pos) (sIf al ft f g) :=
  (ps_if hc ha hb).lk fun Z σ H hq => (sE_step hq).imp fun H ⟨e, G, E, p⟩ => by
    refine ⟨e, G, E, p.imp fun k H' G' x ⟨S, q⟩ => ?_⟩
    cases k with
    | true => rw [if_pos rfl] at q ⊢; exact ⟨_, G', S, q⟩
    | false => rw [if_neg Bool.false_ne_true] at q ⊢; exact ⟨_, G', S, q⟩
/-- x = e -/
def sSet (al : List Nat) (i : Nat) (f : Env → Res D) : Env → Out := sE al f fun d e => .nx (e.set i (some (d, false)))
theorem ds_set {i : Nat} {x : Str} {pos' : Pos} {f : Env → Res D} (hN : X.N.Nodup) (hi : X.N[i]? = some x) (hx : Loc X.env.scope x) (h : DE X W (fun i => i ∈ al) ex f) (hs : swapsWith ex (some (.Name x pos')) pos.line X.env = pure false := by rfl)
    (hf : X.fn x = true ∨ X.env.scope.names.lookup x = some .local := by first | exact .inl rfl | exact .inr rfl | assumption) : DS X W H0 G0 (.Assign [.Name x pos'] ex pos) (sSet al i f) :=
  (ps_set hN hi hx h hs hf).lk fun Z σ H hq => (sE_step hq).imp fun H ⟨e, G, E, p⟩ => by
    exact ⟨e, G, E, p.imp fun d H' G' _ ⟨S, q⟩ v r => q _ H' G' (S.set i r)⟩
/-- x = a new list or dict, to be changed -/
def sSetF (al : List Nat) (i : Nat) (f : Env → Res D) : Env → Out := sE al f fun d e => .nx (e.set i (some (d, true)))
theorem ds_setF {i : Nat} {x : Str} {pos' : Pos} {f : Env → Res D} (hN : X.N.Nodup) (hi : X.N[i]? = some x) (hx : Loc X.env.scope x) (h : DF X W (fun i => i ∈ al) ex f) (hs : swapsWith ex (some (.Name x pos')) pos.line X.env = pure false := by rfl)
    (hf : X.fn x = true ∨ X.env.scope.names.lookup x = some .local := by first | exact .inl rfl | exact .inr rfl | assumption) (hpin : H0.pin i = none := by rfl) : DS X W H0 G0 (.Assign [.Name x pos'] ex pos) (sSetF al i f) :=
  (ps_set hN hi hx h hs hf).lk fun Z σ H ⟨e, G, S, p⟩ => (S.exp al).imp fun H ⟨G1, GA, S1, E, nxt⟩ => by
    refine ⟨e, GA, E, ?_⟩
    unfold sSetF sE at p
    cases hr : f e with
    | ok d =>
      rw [hr] at p
      intro H' G' x a ha ga rc
      have S' := nxt H' G' x
      refine p _ H' G' (S'.setF i (Hb := H) S1.ext.hh (fun j d' b h1 h2 => ?_) ha ga rc hpin)
      have w1 := fz_fzD_own h1
      obtain ⟨a', q1, _, _, q4⟩ := S1.ow j d' w1
      rw [h2] at q1; cases q1
      exact q4.is
    | exc c fs =>
      rw [hr] at p
      exact fun cls o H' s ix => p cls o σ H GA H' (nxt H GA (Ext.refl E.sub)) s ix
    | bad => rw [hr] at p; exact p.elim

/-! ### a, b = e -/
inductive Pat where
  | nm (i : Nat)
  | tp (ps : List Pat)
mutual
def Pat.bind : Pat → D → Env → Res Env
  | .nm i, d, e => .ok (e.set i (some (d, false)))
  | .tp ps, d, e => match d with
    | .tup ds => Pat.binds ps ds e
    | _ => .bad
def Pat.binds : List Pat → List D → Env → Res Env
  | [], [], e => .ok e
  | p :: ps, d :: ds, e => (Pat.bind p d e).bind fun e' => Pat.binds ps ds e'
  | _, _, _ => .bad
end
mutual
def Pat.slots : Pat → List Nat
  | .nm i => [i]
  | .tp ps => Pat.slotss ps
def Pat.slotss : List Pat → List Nat
  | [] => []
  | p :: ps => Pat.slots p ++ Pat.slotss ps
end
/-- what stays where a name of these is stored -/
def Setable (K : PySem.W.Frag) (sl : List Nat) (R : L2.St → Env → Hp → Hp → Prop) : Prop := ∀ σ e H G i d v, i ∈ sl → R σ e H G → Rep K G d v → R (σ.set i (some v)) (e.set i (some (d, false))) H G
/-- a target's reading: it stores by the pattern -/
def DG (X : Cx) (tg : Expr) (p : Pat) : Prop :=
  ∃ g, PG X tg g ∧ ∀ (R : L2.St → Env → Hp → Hp → Prop), Setable X.K p.slots R → ∀ (v : V) (σ : L2.St) (H G : Hp) (d : D) (e e' : Env) (Q : L2.St → Hp → Prop), R σ e H G → Sub G H → Rep X.K G d v → p.bind d e = .ok e' → (∀ σ', R σ' e' H G → Q σ' H) → g v σ H Q
def DGs (X : Cx) (tgs : List Expr) (ps : List Pat) : Prop :=
  ∃ g, PGs X tgs g ∧ ∀ (R : L2.St → Env → Hp → Hp → Prop), Setable X.K (Pat.slotss ps) R → ∀ (vs : List V) (σ : L2.St) (H G : Hp) (ds : List D) (e e' : Env) (Q : L2.St → Hp → Prop), R σ e H G → Sub G H → RepL X.K G ds vs → Pat.binds ps ds e = .ok e' → (∀ σ', R σ' e' H G → Q σ' H) → g vs σ H Q
theorem dg_name {i : Nat} {x : Str} (hN : X.N.Nodup) (hi : X.N[i]? = some x) (hx : Loc X.env.scope x) (hf : X.fn x = true ∨ X.env.scope.names.lookup x = some .local := by first | exact .inl rfl | exact .inr rfl | assumption) : DG X (.Name x pos) (.nm i) :=
  ⟨_, pg_name hN hi hx hf, fun R hR v σ H G d e e' Q S sg r h q => by
    cases h
    exact q _ (hR σ e H G i d v (by simp [Pat.slots]) S r)⟩
theorem dgs_nil : DGs X [] [] := ⟨_, pgs_nil, fun R hR vs σ H G ds e e' Q S sg r h q => by
  cases ds with
  | nil => cases h; exact ⟨r, q σ S⟩
  | cons d ds => cases h⟩
theorem dgs_cons {tg : Expr} {tgs : List Expr} {p : Pat} {ps : List Pat} (h1 : DG X tg p) (h2 : DGs X tgs ps)
    (hs : (assignEach (tg :: tgs) X.env).map (·.2) = assign tg X.env :: (assignEach tgs X.env).map (·.2) := by rfl) : DGs X (tg :: tgs) (p :: ps) := by
  obtain ⟨g1, a1, b1⟩ := h1
  obtain ⟨g2, a2, b2⟩ := h2
  refine ⟨_, pgs_cons a1 a2 hs, fun R hR vs σ H G ds e e' Q S sg r h q => ?_⟩
  cases ds with
  | nil => cases h
  | cons d ds =>
    obtain ⟨v, vr, ev, r1, r2⟩ := r
    dsimp only [Pat.binds] at h
    cases hb : p.bind d e with
    | exc c fs => rw [hb] at h; cases h
    | bad => rw [hb] at h; cases h
    | ok e1 =>
      rw [hb] at h
      refine ⟨v, vr, ev, b1 R (fun σ e H G i d v hi => hR σ e H G i d v (by simp [Pat.slotss, hi])) v σ H G d e e1 _ S sg r1 hb fun σ' S' => ?_⟩
      exact b2 R (fun σ e H G i d v hi => hR σ e H G i d v (by simp [Pat.slotss, hi])) vr σ' H G ds e1 e' Q S' sg r2 h q
theorem binds_length : ∀ (ps : List Pat) (ds : List D) (e e' : Env), Pat.binds ps ds e = .ok e' → ds.length = ps.length := by
  intro ps
  induction ps with
  | nil => intro ds e e' h; cases ds with
    | nil => rfl
    | cons _ _ => cases h
  | cons p ps ih => intro ds e e' h; cases ds with
    | nil => cases h
    | cons d ds =>
      dsimp only [Pat.binds] at h
      cases hb : p.bind d e with
      | exc c fs => rw [hb] at h; cases h
      | bad => rw [hb] at h; cases h
      | ok e1 => rw [hb] at h; rw [List.length_cons, List.length_cons, ih ds e1 e' h]
theorem dg_tup {tgs : List Expr} {k : Nat} {ps : List Pat} {n : Nat} (hc : X.calm = true) (h : DGs X tgs ps) (hl : ps.length = n)
    (hn : (assignEach tgs X.env).length = n := by rfl) (hst : (assignEach tgs X.env).findIdx? (·.1) = none := by rfl) : DG X (.Tuple tgs k pos) (.tp ps) := by
  obtain ⟨g, a, b⟩ := h
  refine ⟨_, pg_tup hc a hn hst, fun R hR v σ H G d e e' Q S sg r h q => ?_⟩
  cases d with
  | tup ds =>
    obtain ⟨p, vs, ev, s, r⟩ := r
    have h : Pat.binds ps ds e = .ok e' := h
    exact ⟨p, vs, ev, sg.pt s, by rw [r.length, binds_length ps ds e e' h, hl], b R (fun σ e H G i d v hi => hR σ e H G i d v (by simpa [Pat.slots] using hi)) vs σ H G ds e e' Q S sg r h q⟩
  | _ => cases h
theorem st_setable {K : PySem.W.Frag} {sl : List Nat} : Setable K sl (StOk K H0 G0) := fun σ e H G i d v _ S r => S.set i r
/-! ### lists changed in place -/
/-- the list that the name i holds, to be changed -/
def ownL (i : Nat) (e : Env) (k : List D → Out) : Out := match e[i]? with
  | some (some (.lst xs, true)) => k xs
  | _ => .bad
theorem StOk.ownL {σ : L2.St} {e : Env} {H G : Hp} {K : PySem.W.Frag} (S : StOk K H0 G0 σ e H G) {i : Nat} {xs : List D} (h : e[i]? = some (some (.lst xs, true))) : ∃ a vs, σ[i]? = some (some (.ref a)) ∧ H a = some (.lst vs) ∧ RepL K G xs vs := by
  obtain ⟨a, q1, q2, q3, vs, e, r⟩ := S.ow i _ h
  exact ⟨a, vs, q1, e, r⟩
end
end DL

namespace DL
open PySem PySem.Spec PyProof.Rows L2
open PySem.Builtin.Int (intBits)
section
variable {X : Cx} {W : WX} {H0 : Bas} {G0 : Hp} {al : List Nat} {ex : Expr} {es : List Expr} {pos apos cpos p1 p2 : Pos}
/-- a method that changes its list -/
def MutL (X : Cx) (id : String) (g : List D → List D → Option (List D)) : Prop :=
  ∃ r, MtR X id r ∧ ∀ (G H : Hp) (a : Addr) (xs : List D) (vs : List V) (ds : List D) (ws : List V) (xs' : List D) (Q : Hp → Prop), Sub G H → H a = some (.lst vs) → RepL X.K G xs vs → RepL X.K G ds ws → g xs ds = some xs' →
    (∀ vs', RepL X.K G xs' vs' → Q (upd H a (.lst vs'))) → r (.ref a) ws H fun _ H' => Q H'
def sMut (al : List Nat) (i : Nat) (g : List D → List D → Option (List D)) (fs : Env → Res (List D)) : Env → Out := fun e => ownL i (fz al e) fun xs => sE al fs (fun ds e' => match g xs ds with
  | some xs' => .nx (e'.set i (some (.lst xs', true)))
  | none => .bad) e
theorem ownL_inv {i : Nat} {e : Env} {k : List D → Out} {Z : Ends} {K : PySem.W.Frag} {mg : Str → Option Value} (p : SPost K mg W H0 G0 (ownL i e k) Z) : ∃ xs, e[i]? = some (some (.lst xs, true)) ∧ SPost K mg W H0 G0 (k xs) Z := by
  unfold ownL at p
  split at p
  · rename_i xs h; exact ⟨xs, h, p⟩
  · exact p.elim
theorem ds_mut {i : Nat} {x name : Str} {id : String} {g : List D → List D → Option (List D)} {fs : Env → Res (List D)} (slot : Slot "list" name id) (hty : typeOf (.builtin id) = pure (.type "method_descriptor")) (hm : MutL X id g)
    (hN : X.N[i]? = some x) (hv : Vis X.env.scope x) (h : DA X W (fun i => i ∈ al) (ex :: es) fs)
    (hd : (x == ("__debug__" : Str)) = false := by decide) (hcd : (x == ("__classdict__" : Str)) = false := by decide)
    (hbase : attributeBase (.Name x p1) name X.env (eval (.Name x p1) X.env) = eval (.Name x p1) X.env := by rfl)
    (hfew : ((backTo cpos (starEach (ex :: es) X.env)).all (fun x => !x.1) && (backToKw cpos (keywordEach [] X.env)).all (fun x => x.1.isSome)
      && decide ((ex :: es).length + ([] : List Keyword).length + (if ([] : List Keyword).isEmpty then 0 else 1) < 30)) = true := by rfl)
    (hline : (apos.endLine == cpos.line) = true := by rfl) (hs : starEach (ex :: es) X.env = (false, eval ex X.env) :: starEach es X.env := by rfl) (hplain : (backTo cpos (starEach es X.env)).any (·.1) = false := by rfl)
    (hsw : swapsWith (.Call (.Attribute (.Name x p1) name apos) (ex :: es) [] cpos) none pos.line X.env = pure false := by rfl) :
    DS X W H0 G0 (.Expr (.Call (.Attribute (.Name x p1) name apos) (ex :: es) [] cpos) pos) (sMut al i g fs) := by
  obtain ⟨r, m1, m2⟩ := hm
  refine (ps_expr (pe_bm PySem.F.plainAttrs_list slot hty m1 (pe_var hN hv hd hcd) h hbase hfew hline hs hplain) hsw).lk fun Z σ H ⟨e, G, S, p⟩ => (S.exp al).imp fun H ⟨G1, GA, S0, E, nxt⟩ => ?_
  have S1 := nxt H GA (Ext.refl E.sub)
  obtain ⟨xs, hx, p⟩ := ownL_inv p
  obtain ⟨a, vs, q1, q2, q3⟩ := S1.ownL hx
  refine ⟨.ref a, q1, .inl ⟨rfl, vs, SqL.of q2⟩, e, GA, E, ?_⟩
  unfold sE at p
  cases hr : fs e with
  | exc c fs' =>
    rw [hr] at p
    exact fun cls o H' s ix => p cls o σ H GA H' S1 s ix
  | bad => rw [hr] at p; exact p.elim
  | ok ds =>
    rw [hr] at p
    intro H' G' x ws rw
    have S2 := nxt H' G' x
    cases hg : g xs ds with
    | none => simp only [hg] at p; exact p.elim
    | some xs' =>
      simp only [hg] at p
      exact m2 G' H' a xs vs ds ws xs' (fun H3 => Z.nx σ H3) x.gh (x.hh _ _ q2) (q3.mono x.gg) rw hg fun vs' r' => p σ _ G' (S2.change hx q1 ⟨vs', upd_same, r'⟩)
def gAppend : List D → List D → Option (List D) := fun xs ds => match ds with
  | [d] => if xs.length < sizeLine then some (xs ++ [d]) else none
  | _ => none
theorem mut_append : MutL X "list.append" gAppend := by
  refine ⟨_, mt_append, fun G H a xs vs ds ws xs' Q sg ha r1 r2 hg q => ?_⟩
  match ds, hg with
  | [d], hg =>
    obtain ⟨w, _, rfl, rw, e⟩ := r2
    have e : _ = [] := e
    subst e
    dsimp only [gAppend] at hg
    by_cases hc : xs.length < sizeLine
    · rw [if_pos hc] at hg
      cases hg
      exact ⟨a, vs, w, rfl, rfl, ha, by rw [r1.length]; exact hc, q _ (r1.append (.cons rw .nil))⟩
    · rw [if_neg hc] at hg; cases hg
/-- xs[i] = v -/
def sPutL (al : List Nat) (i : Nat) (fk fv : Env → Res D) : Env → Out := fun e => ownL i (fz al e) fun xs => sE al (fun e => (fv e).bind fun v => (fk e).bind fun k => .ok (k, v)) (fun kv e' => match kv.1 with
  | .int k => match ixN xs.length k with
    | some j => .nx (e'.set i (some (.lst (xs.set j kv.2), true)))
    | none => .bad
  | _ => .bad) e
/-! ### what a loop walks -/
/-- J yields ds; what is walked is read in B, its items in G -/
structure WalkOf (K : PySem.W.Frag) (J : It) (ds : List D) (B G : Hp) : Prop where
  go : ∀ H i, Sub B H → i < ds.length → J.go i H
  stop : ∀ H, Sub B H → J.stop ds.length H
  yld : ∀ H G2 i x H', Sub B H → Sub G G2 → Sub G2 H → i < ds.length → J.yld i H x H' → ∃ d G', ds[i]? = some d ∧ Ext H G2 H' G' ∧ Rep K G' d x
def tI (K : PySem.W.Frag) (mg : Str → Option Value) (W : WX) (A : Nat → Prop) (f : Env → Res (List D)) : TI := fun σ H R => ∃ e G, EnvG K A σ e H G ∧ PostG K mg (fun c o H' => W c o σ H') H G (f e) fun ds H' G' => ∀ J, WalkOf K J ds G' G' → R J H'
def tIR (K : PySem.W.Frag) (mg : Str → Option Value) (W : WX) (A : Nat → Prop) (f : Env → Res (List D)) : TI := fun σ H R => ∃ e G, EnvG K A σ e H G ∧ PostG K mg (fun c o H' => W c o σ H') H G (f e) fun ds H' G' => ∀ J, WalkOf K J ds H' G' → R J H'
abbrev DI (X : Cx) (W : WX) (A : Nat → Prop) (tg ex : Expr) (f : Env → Res (List D)) : Prop := PI X tg ex (tI X.K X.mg W A f)
abbrev DIR (X : Cx) (W : WX) (A : Nat → Prop) (tg ex : Expr) (f : Env → Res (List D)) : Prop := PI X tg ex (tIR X.K X.mg W A f)
theorem walk_list {K : PySem.W.Frag} {B G : Hp} {a : Addr} {ds : List D} {vs : List V} (s : SqL K B a vs) (r : RepL K G ds vs) : WalkOf K (Itl K a) ds B G where
  go := fun H i h hi => by
    have hl : i < vs.length := by rw [r.length]; exact hi
    exact ⟨vs, vs[i], h.sql s, by simp [hl]⟩
  stop := fun H h => ⟨vs, h.sql s, by rw [r.length]; exact Nat.le_refl _⟩
  yld := fun H G2 i x H' h g g2 hi y => by
    obtain ⟨e, y⟩ := y
    subst e
    obtain ⟨d, h1, h2⟩ := r.get' (y vs (h.sql s))
    exact ⟨d, G2, h1, Ext.refl g2, h2.mono g⟩
theorem walk_tup {K : PySem.W.Frag} {B G : Hp} {a : Addr} {ds : List D} {vs : List V} (s : SqT K B a vs) (r : RepL K G ds vs) : WalkOf K (Itt K a) ds B G where
  go := fun H i h hi => by
    have hl : i < vs.length := by rw [r.length]; exact hi
    exact ⟨vs, vs[i], h.sqt s, by simp [hl]⟩
  stop := fun H h => ⟨vs, h.sqt s, by rw [r.length]; exact Nat.le_refl _⟩
  yld := fun H G2 i x H' h g g2 hi y => by
    obtain ⟨e, y⟩ := y
    subst e
    obtain ⟨d, h1, h2⟩ := r.get' (y vs (h.sqt s))
    exact ⟨d, G2, h1, Ext.refl g2, h2.mono g⟩
theorem walk_range {K : PySem.W.Frag} {B G : Hp} (lo : Int) (n : Nat) : WalkOf K (Itr lo n) ((List.range n).map fun i => D.int (lo + (i : Nat))) B G where
  go := fun H i h hi => by
    show i < n
    simpa using hi
  stop := fun H h => by
    show n ≤ _
    simp
  yld := fun H G2 i x H' h g g2 hi y => by
    obtain ⟨e, y⟩ := y
    subst e
    have hi' : i < n := by simpa using hi
    exact ⟨.int (lo + i), G2, by simp [hi'], Ext.refl g2, y⟩
/-- over a list or tuple -/
def iSeq (f : Env → Res D) : Env → Res (List D) := fun e => (f e).bind fun d => match d with
  | .lst xs => .ok xs
  | .tup xs => .ok xs
  | .con xs => .ok xs
  | _ => .bad
/-- what is walked: a list or a tuple -/
def iSq (K : PySem.W.Frag) (te : TE) : TI := fun σ H R => te σ H fun x H1 => ∃ a, x = .ref a ∧ (((∃ xs, SqL K H1 a xs) ∧ R (Itl K a) H1) ∨ ((∃ xs, SqT K H1 a xs) ∧ R (Itt K a) H1))
theorem pi_sq {tg l : Expr} {tl : TE} (hl : PE X l tl) : PI X tg l (iSq X.K tl) := by
  refine ⟨fun pins s σ H R I h => ?_⟩
  refine thn (hl.run pins s σ H _ I h) fun v s1 ⟨x, H1, I1, r1, q1⟩ => ?_
  obtain ⟨a, e, q⟩ := q1
  subst e
  cases r1
  rcases q with ⟨⟨xs, hq⟩, q⟩ | ⟨⟨xs, hq⟩, q⟩
  · obtain ⟨its, rv, p, hz⟩ := I1.list hq
    refine wpAny_pyIter_list p.isList ?_
    refine ⟨s1.heap.objs.size, [s1.heap.objs.size], _, _, H1, rfl, I1.kept (t' := s1.toks) fun b o e => Heap.get?_push_of_some _ e, turn_list a _, ⟨_, Heap.get?_push_size _ rfl, rfl, rfl⟩, fun b hb => ?_, q⟩
    have e : b = s1.heap.objs.size := by simpa using hb
    subst e
    exact I1.fpOk (Nat.le_refl _) (I1.hok.fresh (Nat.le_refl _))
  · obtain ⟨its, rv, p, hz⟩ := I1.tuple hq
    refine wpAny_pyIter_tuple (show s1.heap.IsTuple a its.toArray from p) ?_
    refine ⟨s1.heap.objs.size, [s1.heap.objs.size], _, _, H1, rfl, I1.kept (t' := s1.toks) fun b o e => Heap.get?_push_of_some _ e, turn_tuple a _, ⟨_, Heap.get?_push_size _ rfl, rfl, rfl⟩, fun b hb => ?_, q⟩
    have e : b = s1.heap.objs.size := by simpa using hb
    subst e
    exact I1.fpOk (Nat.le_refl _) (I1.hok.fresh (Nat.le_refl _))
variable {A : Nat → Prop}
theorem di_seq {tg : Expr} {f : Env → Res D} (h : DE X W A ex f) : DI X W A tg ex (iSeq f) :=
  (pi_sq h).imp fun σ H Q ⟨e, G, E, p⟩ => ⟨e, G, E, p.split.imp fun d H1 G1 x1 p1 v rv => by
    cases d with
    | lst xs =>
      obtain ⟨a, vs, rfl, s, r⟩ := rv
      exact ⟨a, rfl, .inl ⟨⟨vs, x1.gh.sql s⟩, PostG.here (a := xs) p1 x1.gh _ (walk_list s r)⟩⟩
    | tup xs =>
      obtain ⟨a, vs, rfl, s, r⟩ := rv
      exact ⟨a, rfl, .inr ⟨⟨vs, x1.gh.pt s⟩, PostG.here (a := xs) p1 x1.gh _ (walk_tup (SqT.of s) r)⟩⟩
    | con xs =>
      obtain ⟨a, vs, rfl, s, r⟩ := rv
      exact ⟨a, rfl, .inr ⟨⟨vs, x1.gh.sqt s.sqt⟩, PostG.here (a := xs) p1 x1.gh _ (walk_tup s.sqt r)⟩⟩
    | _ => exact (show False from p1).elim⟩
theorem WalkOf.low {K : PySem.W.Frag} {J : It} {ds : List D} {B B' G : Hp} (h : WalkOf K J ds B G) (s : Sub B B') : WalkOf K J ds B' G :=
  ⟨fun H i z => h.go H i (s.trans z), fun H z => h.stop H (s.trans z), fun H G2 i x H' z => h.yld H G2 i x H' (s.trans z)⟩
theorem dir_of {tg : Expr} {f : Env → Res (List D)} (h : DI X W A tg ex f) : DIR X W A tg ex f :=
  h.imp fun σ H Q ⟨e, G, E, p⟩ => ⟨e, G, E, p.imp fun ds H1 G1 x1 q J w => q J (w.low x1.gh)⟩
/-! ranges -/
def rangeD (lo hi : Int) : List D := (List.range (hi - lo).toNat).map fun i => D.int (lo + (i : Nat))
def iRange1 (f : Env → Res D) : Env → Res (List D) := fun e => (f e).bind fun d => match d with
  | .int n => if -(2 ^ 62) ≤ n ∧ n < 2 ^ 62 then .ok (rangeD 0 n) else .bad
  | _ => .bad
theorem di_range1 {tg a : Expr} {p : Pos} {f : Env → Res D} (hg : Gl X "range") (hm : X.mg "range" = none) (ha : DE X W A a f) (hs : starEach [a] X.env = [(false, eval a X.env)] := by rfl) : DI X W A tg (.Call (.Name "range" p) [a] [] pos) (iRange1 f) :=
  (pi_range1 hg hm (pa_cons ha pa_nil hs) hs).imp fun σ H Q ⟨e, G, E, p⟩ => ⟨e, G, E, p.split.imp fun d H1 G1 x1 p1 v rv => by
    cases d with
    | int n =>
      have ev : v = .int n := rv
      subst ev
      dsimp only at p1
      by_cases hc : -(2 ^ 62) ≤ n ∧ n < 2 ^ 62
      · rw [if_pos hc] at p1
        refine ⟨n, rfl, hc.1, hc.2, p1.here x1.gh _ ?_⟩
        have : rangeD 0 n = (List.range n.toNat).map fun i => D.int (0 + (i : Nat)) := by unfold rangeD; rw [Int.sub_zero]
        rw [this]
        exact walk_range 0 n.toNat
      · rw [if_neg hc] at p1; exact p1.elim
    | _ => exact (show False from p1).elim⟩
/-! ### for -/
theorem StOk.step {K : PySem.W.Frag} {σ : L2.St} {e : Env} {H G H' G' : Hp} (S2 : StOk K H0 G0 σ e H G) (x3 : Ext H G H' G') : StOk K H0 G0 σ e H' G' := by
  refine ⟨S2.ext.trans x3, S2.len, fun j d' h => ?_, fun j d' h => ?_, S2.ne, S2.pn⟩
  · obtain ⟨v, w1, w2⟩ := S2.sh j d' h
    exact ⟨v, w1, w2.mono x3.gg⟩
  · obtain ⟨a, w1, w2, w3, w4⟩ := S2.ow j d' h
    refine ⟨a, w1, w2, ?_, w4.mono x3.hh x3.gg⟩
    cases hga : G' a with
    | none => rfl
    | some u =>
      rcases x3.new a (by rw [hga]; simp) with z | z
      · exact absurd w3 z
      · exact absurd z w4.nfr
theorem Ext.down {H G1 H1 G G' H' : Hp} (x : Ext H G H' G') (y : Ext H G1 H1 G) : Ext H G1 H' G' :=
  ⟨x.hh, y.gg.trans x.gg, x.gh, fun b z => by
    rcases x.new b z with z | z
    · exact y.new b z
    · exact .inr z⟩
theorem StOk.down {K : PySem.W.Frag} {σ : L2.St} {e : Env} {H G H1 G1 : Hp} (S : StOk K H0 G1 σ e H G) (y : Ext H0.hp G0 H1 G1) : StOk K H0 G0 σ e H G := ⟨S.ext.down y, S.len, S.sh, S.ow, S.ne, S.pn⟩
theorem StOk.up {K : PySem.W.Frag} {σ : L2.St} {e : Env} {H G G1 : Hp} (S : StOk K H0 G0 σ e H G) (s : Sub G1 G) (h : ∀ b, G b ≠ none → G1 b ≠ none ∨ Fr1 H0.hp b := by exact fun b z => .inl z) : StOk K H0 G1 σ e H G := ⟨⟨S.ext.hh, s, S.ext.gh, h⟩, S.len, S.sh, S.ow, S.ne, S.pn⟩
/-- the turns -/
def turns (p : Pat) (body : Env → Out) : List D → Env → Out
  | [], e => .nx e
  | d :: ds, e => match p.bind d e with
    | .ok e1 => match body e1 with
      | .nx e2 => turns p body ds e2
      | .ct e2 => turns p body ds e2
      | .bk e2 => .nx e2
      | .rt d => .rt d
      | .ro d => .ro d
      | .rm d e2 => .rm d e2
      | .ex c fs e2 => .ex c fs e2
      | .bad => .bad
    | _ => .bad
def sFor (al : List Nat) (p : Pat) (fi : Env → Res (List D)) (body : Env → Out) : Env → Out := sE al fi fun ds e => turns p body ds e
theorem ds_for {tg iter : Expr} {body : List Stmt} {p : Pat} {fi : Env → Res (List D)} {fb : Env → Out} (hp : PassesOwn (model X.prog X.w) X.A X.env X.xe) (hc : X.calm = true) (hi : DI X W (fun i => i ∈ al) tg iter fi) (hg : DG X tg p) (hb : ∀ G1, DSs X W H0 G1 body fb)
    (hs : ∀ x, foldedSetIterable iter X.env x = pure x := by intro _; rfl) : DS X W H0 G0 (.For tg iter body [] pos) (sFor al p fi fb) := by
  obtain ⟨g, g1, g2⟩ := hg
  -- the body's reading, whatever stays through it
  have hb' : PSs X body fun Z σ H => ∃ G1, tS X.K X.mg W H0 G1 fb Z σ H := ⟨fun pins s σ H D I ⟨G1, q⟩ => (hb G1).run pins s σ H D I q⟩
  refine (ps_for hp hc hi g1 hb' hs).lk fun Z σ H hq => (sE_step hq).imp fun H ⟨e, G, E, p1⟩ => ?_
  refine ⟨e, G, E, p1.imp fun ds H1 G1 x1 ⟨S1, q1⟩ J w => ?_⟩
  -- what holds between the turns
  refine ⟨fun i m σ2 H2 => m = ds.length - i ∧ i ≤ ds.length ∧ ∃ e2 G2, StOk X.K H0 G0 σ2 e2 H2 G2 ∧ Sub G1 G2 ∧ SPost X.K X.mg W H0 G0 (turns p fb (ds.drop i) e2) Z,
    ⟨ds.length, rfl, Nat.zero_le _, fz al e, G1, S1, Sub.refl _, q1⟩, ?_⟩
  rintro i m σ2 H2 ⟨rfl, hi, e2, G2, S2, g12, q2⟩
  by_cases hlt : i < ds.length
  · refine .inr ⟨w.go H2 i (g12.trans S2.ext.gh) hlt, fun σ3 H3 => ∃ e3 G3, StOk X.K H0 G0 σ3 e3 H3 G3 ∧ Sub G1 G3 ∧ SPost X.K X.mg W H0 G0 (turns p fb (ds.drop (i + 1)) e3) Z, ?_, ?_⟩
    · rintro σ3 H3 ⟨e3, G3, S3, g13, q3⟩
      exact ⟨ds.length - (i + 1), by omega, rfl, hlt, e3, G3, S3, g13, q3⟩
    · intro x H3 y
      obtain ⟨d, G3, hd, x3, rd⟩ := w.yld H2 G2 i x H3 (g12.trans S2.ext.gh) g12 S2.ext.gh hlt y
      have S3 : StOk X.K H0 G0 σ2 e2 H3 G3 := S2.step x3
      have e0 : ds.drop i = d :: ds.drop (i + 1) := by
        rw [List.drop_eq_getElem_cons hlt]
        have : ds[i] = d := by
          have := List.getElem?_eq_getElem hlt
          rw [hd] at this
          exact (Option.some.inj this).symm
        rw [this]
      rw [e0] at q2
      dsimp only [turns] at q2
      cases hb : p.bind d e2 with
      | exc c fs => rw [hb] at q2; exact q2.elim
      | bad => rw [hb] at q2; exact q2.elim
      | ok e3 =>
        rw [hb] at q2
        dsimp only at q2
        refine g2 _ st_setable x σ2 H3 G3 d e2 e3 _ S3 S3.ext.gh rd hb fun σ4 S4 => ⟨G3, e3, G3, S4.up (Sub.refl _), ?_⟩
        have g14 : Sub G1 G3 := g12.trans x3.gg
        cases hr : fb e3 with
        | nx e4 =>
          rw [hr] at q2
          exact fun σ5 H5 G5 S5 => ⟨e4, G5, S5.down S4.ext, g14.trans S5.ext.gg, q2⟩
        | ct e4 =>
          rw [hr] at q2
          exact fun σ5 H5 G5 S5 => ⟨e4, G5, S5.down S4.ext, g14.trans S5.ext.gg, q2⟩
        | bk e4 => rw [hr] at q2; exact fun σ5 H5 G5 S5 => q2 σ5 H5 G5 (S5.down S4.ext)
        | rt d => rw [hr] at q2; exact fun v H5 G5 x5 => q2 v H5 G5 (x5.down S4.ext)
        | ro d => rw [hr] at q2; exact fun a H5 G5 x5 => q2 a H5 G5 (x5.down S4.ext)
        | rm d e4 => rw [hr] at q2; exact fun v σ5 H5 G5 S5 => q2 v σ5 H5 G5 (S5.down S4.ext)
        | ex c fs e4 => rw [hr] at q2; exact fun cls o σ5 H5 G5 H6 S5 => q2 cls o σ5 H5 G5 H6 (S5.down S4.ext)
        | bad => rw [hr] at q2; exact q2.elim
  · have ei : i = ds.length := by omega
    subst ei
    refine .inl ⟨w.stop H2 (g12.trans S2.ext.gh), ?_⟩
    rw [List.drop_length] at q2
    exact q2 σ2 H2 G2 S2
end
end DL

namespace DL
open PySem PySem.Spec PyProof.Rows L2
open PySem.Builtin.Int (intBits)

/-! ### while -/
section
variable {X : Cx} {W : WX} {H0 : Bas} {G0 : Hp} {al : List Nat} {ex : Expr} {es : List Expr} {pos apos cpos p1 p2 : Pos}
/-! ### calls of defs -/
/-- what a def of so many parameters promises: what F says -/
def spD (K : PySem.W.Frag) (mg : Str → Option Value) (n : Nat) (F : List D → Res D) : Sp := fun vs H Q E => vs.length = n ∧ ∃ ds G, Sub G H ∧ RepL K G ds vs ∧ PostG K mg E H G (F ds) fun d H' G' => ∀ v, Rep K G' d v → Q v H'
structure CallOk (P : Program) (w : World) (K : PySem.W.Frag) (mg : Str → Option Value) (base : Heap) (k : Nat) (x : Str) (ps : List Str) (F : List D → Res D) : Prop where
  ok : ∃ f fd, mg x = some (.ref f) ∧ PySem.W.keepIn K (.ref f) = true ∧ Binds K fd ps [] ∧ FnOk P w K mg base (L2.CX P w) k f fd ps (spD K mg ps.length F)
def eCall (F : List D → Res D) (fs : Env → Res (List D)) : Env → Res D := fun e => (fs e).bind F
theorem de_call {A : Nat → Prop} {x : Str} {p : Pos} {k : Nat} {ps : List Str} {F : List D → Res D} {fs : Env → Res (List D)} (c : CallOk X.prog X.w X.K X.mg X.base k x ps F) (hr : Room k X.A) (hg : Gl X x) (tk : Takes X W) (ha : DA X W A (ex :: es) fs) (hl : LenIs fs ps.length) (hl2 : ∀ e ds, fs e = .ok ds → ps.length ≤ ds.length)
    (hdb : (x == ("__debug__" : Str)) = false := by decide) (he : starEach (ex :: es) X.env = (false, eval ex X.env) :: starEach es X.env := by rfl) (hpl : (backTo pos (starEach es X.env)).any (·.1) = false := by rfl) :
    DE X W A (.Call (.Name x p) (ex :: es) [] pos) (eCall F fs) := by
  obtain ⟨f, fd, hm, hk, hb, hF⟩ := c.ok
  refine (pe_callS hF hr hg hm hk hb (fun σ => passAt tk σ) ha hdb he hpl).imp fun σ H Q ⟨e, G, E, p⟩ => ⟨e, G, E, p.split.ifok fun ds H1 G1 hk x1 p1 vs rs => ?_⟩
  exact ⟨by rw [rs.length]; exact Nat.le_antisymm (hl e ds hk) (hl2 e ds hk), ds, G1, x1.gh, rs, p1⟩
/-- .. exactly so long -/
def LenEq (fs : Env → Res (List D)) (n : Nat) : Prop := ∀ e ds, fs e = .ok ds → ds.length = n
theorem leq_nil : LenEq aNil 0 := fun e ds h => by cases h; rfl
theorem leq_cons {f : Env → Res D} {fs : Env → Res (List D)} {n : Nat} (h : LenEq fs n) : LenEq (aCons f fs) (n + 1) := fun e ds q => by
  unfold aCons at q
  cases hf : f e with
  | ok d =>
    rw [hf] at q
    cases hs : fs e with
    | ok es => rw [hs] at q; cases q; exact congrArg (· + 1) (h e es hs)
    | exc c x => rw [hs] at q; cases q
    | bad => rw [hs] at q; cases q
  | exc c x => rw [hf] at q; cases q
  | bad => rw [hf] at q; cases q
theorem de_callE {A : Nat → Prop} {x : Str} {p : Pos} {k : Nat} {ps : List Str} {F : List D → Res D} {fs : Env → Res (List D)} (c : CallOk X.prog X.w X.K X.mg X.base k x ps F) (hr : Room k X.A) (hg : Gl X x) (tk : Takes X W) (ha : DA X W A (ex :: es) fs) (hl : LenEq fs ps.length)
    (hdb : (x == ("__debug__" : Str)) = false := by decide) (he : starEach (ex :: es) X.env = (false, eval ex X.env) :: starEach es X.env := by rfl) (hpl : (backTo pos (starEach es X.env)).any (·.1) = false := by rfl) :
    DE X W A (.Call (.Name x p) (ex :: es) [] pos) (eCall F fs) := de_call c hr hg tk ha (fun e ds h => Nat.le_of_eq (hl e ds h)) (fun e ds h => Nat.le_of_eq (hl e ds h).symm) hdb he hpl

/-! ### a def keeps its promise -/
def env0 (n m : Nat) (ds : List D) : Env := ds.map (fun d => some (d, false)) ++ List.replicate (m - n) none
def runDef (n m : Nat) (fb : Env → Out) : List D → Res D := fun ds => match fb (env0 n m ds) with
  | .rt d => .ok d
  | .ro d => .ok d
  | .rm d _ => .ok d
  | .nx _ => .ok .non
  | .ex c fs _ => .exc c fs
  | _ => .bad
abbrev wE (E : XK) : WX := fun cls o _ H => E cls o H
theorem fnD {P : Program} {w : World} {K : PySem.W.Frag} {mg : Str → Option Value} {base : Heap} {x qual : Str} {st : Stmt} {f : Addr} {fd : FuncData} {N ps : List Str} {k : Nat} {fb : Env → Out} (F : Fun K x qual st f fd) (S : FnScope N ps (defScope st))
    (hbody : ∀ (cdv : Value) (A : Around) (outer : List PySem.Env) (s : Shared) (H G : Hp) (E : XK), Room k (A.deeper (envOfC qual (defScope st) s.heap.objs.size f cdv)) →
      Takes (cxOf (L2.CX P w) P w K mg base N qual (defScope st) f cdv A outer s H E) (wE E) → PassesOwn (model P w) (A.deeper (envOfC qual (defScope st) s.heap.objs.size f cdv)) (envOfC qual (defScope st) s.heap.objs.size f cdv) (cxOf (L2.CX P w) P w K mg base N qual (defScope st) f cdv A outer s H E).xe →
      DSs (cxOf (L2.CX P w) P w K mg base N qual (defScope st) f cdv A outer s H E) (wE E) (Bas.of H) G (defBody st) fb) :
    FnOk P w K mg base (L2.CX P w) (k + 1) f fd ps (spD K mg ps.length (runDef ps.length N.length fb)) := by
  refine F.okX S (fun vs H Q E h => h.1) fun cdv A outer s H vs Q E hr h => ?_
  obtain ⟨hl, ds, G, sg, r, p⟩ := h
  refine ⟨_, (hbody cdv A outer s H G E hr (takes_of rfl rfl rfl rfl) (passes_of rfl)).lkR (fun D σ H q => q), ?_⟩
  show tS _ _ _ _ _ _ _ _ _
  refine ⟨env0 ps.length N.length ds, G, ?_, ?_⟩
  · have hps : ps.length ≤ N.length := by have := congrArg List.length S.pre; rw [List.length_take] at this; omega
    have hdl := r.length
    have get : ∀ (i : Nat) (d : D) (o : Bool), (env0 ps.length N.length ds)[i]? = some (some (d, o)) → o = false ∧ ds[i]? = some d := fun i d o h => by
      unfold env0 at h
      by_cases hi : i < ds.length
      · rw [List.getElem?_append_left (by simpa using hi), List.getElem?_map] at h
        cases q : ds[i]? with
        | none => rw [q] at h; cases h
        | some d' => rw [q] at h; cases h; exact ⟨rfl, rfl⟩
      · rw [List.getElem?_append_right (by simpa using hi), List.getElem?_replicate] at h
        split at h <;> cases h
    refine ⟨⟨Sub.refl _, Sub.refl _, sg, fun b z => .inl z⟩, ?_, fun i d h => ?_, fun i d h => ?_, fun i j d d' a h => ?_, fun i a d h => by cases h⟩
    · unfold L2.start env0
      simp only [List.length_append, List.length_map, List.length_replicate]
      omega
    · obtain ⟨_, h2⟩ := get i d false h
      obtain ⟨v, h3, h4⟩ := r.get h2
      refine ⟨v, ?_, h4⟩
      have hi : i < vs.length := (List.getElem?_eq_some_iff.mp h3).1
      unfold L2.start
      rw [List.getElem?_append_left (by simpa using hi), List.getElem?_map, h3]
      rfl
    · exact absurd (get i d true h).1 (by simp)
    · exact absurd (get i d true h).1 (by simp)
  · unfold runDef at p
    cases hr : fb (env0 ps.length N.length ds) with
    | rt d =>
      rw [hr] at p
      exact fun v H' G' x r => .here (p H' G' x v r)
    | ro d =>
      rw [hr] at p
      intro a H' G' x ha ga rc
      exact (own_lock x ha ga rc).imp fun H2 ⟨G2, y, r⟩ => p H2 G2 y _ r
    | nx e' =>
      rw [hr] at p
      exact fun σ' H' G' S' => p H' G' S'.ext .non rfl
    | ex c fs e' =>
      rw [hr] at p
      exact fun cls o σ' H' G' H2 S' s2 ix => p cls o H2 (S'.ext.hh.trans s2) (ix.back S'.ext.hh)
    | rm d e' =>
      rw [hr] at p
      exact fun v σ' H' G' S' r => .here (p H' G' S'.ext v r)
    | bk e' => rw [hr] at p; exact p.elim
    | ct e' => rw [hr] at p; exact p.elim
    | bad => rw [hr] at p; exact p.elim
/-- where nothing is promised -/
theorem fn_bad {P : Program} {w : World} {K : PySem.W.Frag} {mg : Str → Option Value} {base : Heap} {f : Addr} {fd : FuncData} {ps : List Str} {k : Nat} {F : List D → Res D} (h : ∀ ds, F ds = .bad) : FnOk P w K mg base (L2.CX P w) k f fd ps (spD K mg ps.length F) :=
  ⟨fun vs H Q E h => h.1, fun A outer s H args us vs Q E _ _ _ _ ⟨_, ds, G, _, _, p⟩ => by rw [h ds] at p; exact p.elim⟩
end
end DL

namespace DL
open PySem PySem.Spec PyProof.Rows L2
open PySem.Builtin.Int (intBits)

/-! ### comprehensions -/
def wipeE (e : Env) : List Nat → Env
  | [] => e
  | v :: vs => (wipeE e vs).set v none
theorem wipeE_length (e : Env) : ∀ vs : List Nat, (wipeE e vs).length = e.length
  | [] => rfl
  | v :: vs => by unfold wipeE; rw [List.length_set, wipeE_length e vs]
theorem wipe_other {σ : L2.St} {i : Nat} : ∀ {vs : List Nat}, i ∉ vs → (wipe σ vs)[i]? = σ[i]?
  | [], _ => rfl
  | v :: vs, h => by
    unfold wipe
    rw [List.getElem?_set_ne (fun z => h (by simp [z])), wipe_other (fun z => h (by simp [z]))]
theorem wipeE_get {e : Env} {i : Nat} {x : D × Bool} : ∀ {vs : List Nat}, (wipeE e vs)[i]? = some (some x) → e[i]? = some (some x) ∧ i ∉ vs
  | [], h => ⟨h, by simp⟩
  | v :: vs, h => by
    unfold wipeE at h
    rcases set_get h with ⟨_, z⟩ | ⟨hi, z⟩
    · cases z
    · obtain ⟨a, b⟩ := wipeE_get z
      exact ⟨a, by simp [hi, b]⟩
theorem wipe_set {σ : L2.St} {i : Nat} {x : Option V} : ∀ {vs : List Nat}, i ∈ vs → wipe (σ.set i x) vs = wipe σ vs
  | [], h => by simp at h
  | v :: vs, h => by
    unfold wipe
    by_cases hv : i ∈ vs
    · rw [wipe_set hv]
    · have e : i = v := by simpa [hv] using h
      subst e
      have key : ∀ (ws : List Nat) (τ : L2.St), i ∉ ws → wipe (τ.set i x) ws = (wipe τ ws).set i x := by
        intro ws
        induction ws with
        | nil => intro τ _; rfl
        | cons w ws ih =>
          intro τ hw
          unfold wipe
          rw [ih τ (fun z => hw (by simp [z])), List.set_comm _ _ (fun z => hw (by simp [z]))]
      rw [key vs σ hv, List.set_set]
theorem wipe_idem {σ : L2.St} : ∀ (vs : List Nat), wipe (wipe σ vs) vs = wipe σ vs := by
  have swap : ∀ (ws : List Nat) (τ : L2.St) (i : Nat), wipe (τ.set i none) ws = (wipe τ ws).set i none := by
    intro ws
    induction ws with
    | nil => intro τ i; rfl
    | cons w ws ih =>
      intro τ i
      unfold wipe
      rw [ih]
      by_cases h : i = w
      · subst h; rfl
      · rw [List.set_comm _ _ h]
  intro vs
  induction vs with
  | nil => rfl
  | cons v vs ih =>
    show (wipe ((wipe σ vs).set v none) vs).set v none = (wipe σ vs).set v none
    rw [swap, ih, List.set_set]
theorem EnvG.wipe {K : PySem.W.Frag} {A : Nat → Prop} {σ : L2.St} {e : Env} {H G : Hp} (h : EnvG K A σ e H G) (vs : List Nat) : EnvG K A (L2.wipe σ vs) (wipeE e vs) H G :=
  ⟨h.sub, by rw [wipe_length, wipeE_length]; exact h.len, fun i d o hi => by
    obtain ⟨a, b⟩ := wipeE_get hi
    rw [wipe_other b]
    exact h.val i d o a⟩
theorem EnvG.set {K : PySem.W.Frag} {A : Nat → Prop} {σ : L2.St} {e : Env} {H G : Hp} (h : EnvG K A σ e H G) (i : Nat) {d : D} {v : V} (r : Rep K G d v) : EnvG K A (σ.set i (some v)) (e.set i (some (d, false))) H G :=
  ⟨h.sub, by rw [List.length_set, List.length_set]; exact h.len, fun j d' o hj => by
    rcases set_get hj with ⟨rfl, z⟩ | ⟨hij, z⟩
    · cases z
      have hl : j < e.length := by
        by_cases hl : j < e.length
        · exact hl
        · rw [List.getElem?_eq_none (by simpa using hl)] at hj; cases hj
      exact ⟨v, List.getElem?_set_self (by rw [h.len]; exact hl), fun _ => r, r.c h.sub⟩
    · rw [List.getElem?_set_ne (Ne.symm hij)]
      exact h.val j d' o z⟩
/-- the items: what is walked, by the pattern, where the test holds -/
def compL (e : Env) (p : Pat) (ft : Env → Res Bool) (fe : Env → Res D) : List D → Res (List D)
  | [] => .ok []
  | d :: ds => match p.bind d e with
    | .ok e1 => match ft e1 with
      | .ok true => match fe e1 with
        | .ok y => (compL e p ft fe ds).bind fun ys => .ok (y :: ys)
        | _ => .bad
      | .ok false => compL e p ft fe ds
      | _ => .bad
    | _ => .bad
def bYes : Env → Res Bool := fun _ => .ok true
def eComp (own : List Nat) (p : Pat) (fi : Env → Res (List D)) (ft : Env → Res Bool) (fe : Env → Res D) : Env → Res D := fun e => (fi e).bind fun ds => if ds.length ≤ sizeLine then (match compL (wipeE e own) p ft fe ds with
  | .ok ys => .ok (.lst ys)
  | _ => .bad) else .bad
abbrev WF : WX := fun _ _ _ _ => False
abbrev DTs (X : Cx) (A : Nat → Prop) (ifs : List Expr) (f : Env → Res Bool) : Prop := PTs X ifs (tT X.K X.mg WF A f)
theorem dts_nil {X : Cx} {A : Nat → Prop} : DTs X A [] bYes := ⟨fun pins s σ H Q I ⟨e, G, E, p⟩ => pts_nil.run pins s σ H Q I (p.here E.sub)⟩
theorem dts_one {X : Cx} {A : Nat → Prop} {c : Expr} {f : Env → Res Bool} (h : DT X WF A c f) : DTs X A [c] f := pts_one h
/-- the reading of a comprehension, from the data's -/
theorem comp_imp {K : PySem.W.Frag} {mg : Str → Option Value} {W : WX} {A : Nat → Prop} {own : List Nat} {p : Pat} {fi : Env → Res (List D)} {ft : Env → Res Bool} {fe : Env → Res D} {g : TG} (hsl : ∀ i ∈ p.slots, i ∈ own)
    (hg : ∀ (R : L2.St → Env → Hp → Hp → Prop), Setable K p.slots R → ∀ (v : V) (σ : L2.St) (H G : Hp) (d : D) (e e' : Env) (Q : L2.St → Hp → Prop), R σ e H G → Sub G H → Rep K G d v → p.bind d e = .ok e' → (∀ σ', R σ' e' H G → Q σ' H) → g v σ H Q)
    (σ : L2.St) (H : Hp) (Q : VK) (q : tF K mg W A (eComp own p fi ft fe) σ H Q) : tLc (tIR K mg W A fi) g (tT K mg WF A ft) (tD K mg WF A fe) own σ H Q := by
  obtain ⟨e, G, E, pp⟩ := q
  refine ⟨e, G, E, pp.split.imp fun ds H1 G1 x1 p1 J w D0 hD => ?_⟩
  have E1 := E.ext x1
  by_cases hz : ds.length ≤ sizeLine
  · rw [if_pos hz] at p1
    cases hc : compL (wipeE e own) p ft fe ds with
    | exc c fs => rw [hc] at p1; exact p1.elim
    | bad => rw [hc] at p1; exact p1.elim
    | ok total =>
      rw [hc] at p1
      have gD : G1 D0 = none := x1.gh.free hD
      refine ⟨fun i m H2 => m = ds.length - i ∧ i ≤ ds.length ∧ ∃ (G2 : Hp) (acc : List D) (accV : List V) (rest : List D), Ext H1 G1 H2 G2 ∧ G2 D0 = none ∧ H2 D0 = some (.lst accV) ∧ RepL K G2 acc accV ∧ acc.length ≤ i ∧ compL (wipeE e own) p ft fe (ds.drop i) = .ok rest ∧ acc ++ rest = total,
        ⟨ds.length, rfl, Nat.zero_le _, G1, [], [], total, ⟨Sub.upd hD, Sub.refl _, x1.gh.trans (Sub.upd hD), fun b z => .inl z⟩, gD, upd_same, rfl, Nat.zero_le _, hc, rfl⟩, ?_⟩
      rintro i m H2 ⟨rfl, hi, G2, acc, accV, rest, x2, g2, h2, r2, ha, hr, ht⟩
      by_cases hlt : i < ds.length
      · refine .inr ⟨w.go H2 i x2.hh hlt, fun H3 => ∃ (G3 : Hp) (acc : List D) (accV : List V) (rest : List D), Ext H1 G1 H3 G3 ∧ G3 D0 = none ∧ H3 D0 = some (.lst accV) ∧ RepL K G3 acc accV ∧ acc.length ≤ i + 1 ∧ compL (wipeE e own) p ft fe (ds.drop (i + 1)) = .ok rest ∧ acc ++ rest = total, fun H3 h => ⟨ds.length - (i + 1), by omega, rfl, hlt, h⟩, fun x H3 y => ?_⟩
        obtain ⟨d, G3, hd, x3, rd⟩ := w.yld H2 G2 i x H3 x2.hh x2.gg x2.gh hlt y
        have x13 := x2.trans x3
        have n3 : ∀ {H' G' : Hp}, Ext H2 G2 H' G' → G' D0 = none := fun {H' G'} x => by
          cases hga : G' D0 with
          | none => rfl
          | some u =>
            rcases x.new D0 (by rw [hga]; simp) with z | z
            · exact absurd g2 z
            · rcases z with z | ⟨_, z⟩ <;> (rw [h2] at z; cases z)
        have e0 : ds.drop i = d :: ds.drop (i + 1) := by
          rw [List.drop_eq_getElem_cons hlt]
          have : ds[i] = d := by
            have := List.getElem?_eq_getElem hlt
            rw [hd] at this
            exact (Option.some.inj this).symm
          rw [this]
        rw [e0] at hr
        dsimp only [compL] at hr
        cases hb : p.bind d (wipeE e own) with
        | exc c fs => rw [hb] at hr; cases hr
        | bad => rw [hb] at hr; cases hr
        | ok e1 =>
          rw [hb] at hr
          dsimp only at hr
          refine hg (fun σ' e' H' G' => EnvG K A σ' e' H' G' ∧ L2.wipe σ' own = L2.wipe σ own) (fun σ' e' H' G' j d' v hj ⟨R1, R2⟩ r => ⟨R1.set j r, by rw [wipe_set (hsl j hj)]; exact R2⟩) x (L2.wipe σ own) H3 G3 d (wipeE e own) e1 _ ⟨(E1.ext x13).wipe own, wipe_idem own⟩ x3.gh rd hb fun σ' ⟨R1, R2⟩ => ⟨R2, e1, G3, R1, ?_⟩
          cases hft : ft e1 with
          | exc c fs => rw [hft] at hr; cases hr
          | bad => rw [hft] at hr; cases hr
          | ok b =>
            rw [hft] at hr
            intro H4 G4 x4
            cases b with
            | false =>
              dsimp only at hr ⊢
              rw [if_neg Bool.false_ne_true]
              exact ⟨G4, acc, accV, rest, x13.trans x4, n3 (x3.trans x4), x4.hh _ _ (x3.hh _ _ h2), (r2.mono x3.gg).mono x4.gg, Nat.le_succ_of_le ha, hr, ht⟩
            | true =>
              dsimp only at hr ⊢
              rw [if_pos rfl]
              refine ⟨e1, G4, R1.ext x4, ?_⟩
              cases hfe : fe e1 with
              | exc c fs => rw [hfe] at hr; cases hr
              | bad => rw [hfe] at hr; cases hr
              | ok y =>
                rw [hfe] at hr
                dsimp only at hr
                intro H5 G5 x5 yv ry
                cases hcr : compL (wipeE e own) p ft fe (ds.drop (i + 1)) with
                | exc c fs => rw [hcr] at hr; cases hr
                | bad => rw [hcr] at hr; cases hr
                | ok rest' =>
                  rw [hcr] at hr
                  cases hr
                  have x25 := (x3.trans x4).trans x5
                  have x15 := x2.trans x25
                  have n5 := n3 x25
                  have h5 := x25.hh _ _ h2
                  refine ⟨accV, h5, ?_, G5, acc ++ [y], accV ++ [yv], rest', ⟨fun b o z => ?_, x15.gg, fun b o z => ?_, x15.new⟩, n5, upd_same, (r2.mono x25.gg).append (.cons ry rfl), ?_, rfl, ?_⟩
                  · rw [r2.length]; omega
                  · have nb : b ≠ D0 := fun q => by rw [q, hD] at z; cases z
                    rw [upd_ne nb]; exact x15.hh _ _ z
                  · have nb : b ≠ D0 := fun q => by rw [q, n5] at z; cases z
                    rw [upd_ne nb]; exact x15.gh _ _ z
                  · rw [List.length_append, List.length_singleton]; omega
                  · rw [← ht, List.append_assoc]; rfl
      · have ei : i = ds.length := by omega
        subst ei
        refine .inl ⟨w.stop H2 x2.hh, ?_⟩
        rw [List.drop_length] at hr
        cases hr
        rw [List.append_nil] at ht
        subst ht
        exact p1 H2 G2 x2 D0 (x1.hh.free hD) g2 ⟨accV, h2, r2⟩
  · rw [if_neg hz] at p1; exact p1.elim
section
variable {X : Cx} {W : WX} {H0 : Bas} {G0 : Hp} {A : Nat → Prop} {al : List Nat} {pos spos : Pos}
theorem df_comp {elt tg iter : Expr} {ifs : List Expr} {scope : Scope} {own : List (Str × Nat)} {p : Pat} {fi : Env → Res (List D)} {ft : Env → Res Bool} {fe : Env → Res D} (hc : X.calm = true) (hN : X.N.Nodup) (hi : DIR X W A tg iter fi) (ok : BlkOk X.N X.env.scope scope own)
    (hg : ∀ (s : Shared) (H : Hp) (C : Addr) (cl : List (Str × Addr)) (fp : List Addr), DG (X.blk s H scope (compEnvC scope cl C X.env) fp) tg p) (ht : ∀ (s : Shared) (H : Hp) (C : Addr) (cl : List (Str × Addr)) (fp : List Addr), DTs (X.blk s H scope (compEnvC scope cl C X.env) fp) A ifs ft)
    (he : ∀ (s : Shared) (H : Hp) (C : Addr) (cl : List (Str × Addr)) (fp : List Addr), DE (X.blk s H scope (compEnvC scope cl C X.env) fp) WF A elt fe) (hsl : ∀ i ∈ p.slots, i ∈ own.map (·.2)) (hs : ∀ x, foldedSetIterable iter X.env x = pure x := by intro _; rfl) :
    DF X W A (.ListComp elt [⟨tg, iter, ifs, 0⟩] scope pos) (eComp (own.map (·.2)) p fi ft fe) := by
  let g0 : TG := fun v σ H Q => ∃ (R : L2.St → Env → Hp → Hp → Prop) (G : Hp) (d : D) (e e' : Env), Setable X.K p.slots R ∧ R σ e H G ∧ Sub G H ∧ Rep X.K G d v ∧ p.bind d e = .ok e' ∧ ∀ σ', R σ' e' H G → Q σ' H
  have hg' : ∀ (s : Shared) (H : Hp) (C : Addr) (cl : List (Str × Addr)) (fp : List Addr), PG (X.blk s H scope (compEnvC scope cl C X.env) fp) tg g0 := fun s H C cl fp => by
    obtain ⟨g, g1, g2⟩ := hg s H C cl fp
    exact ⟨fun pins s σ H v u Q I r ⟨R, G, d, e, e', a1, a2, a3, a4, a5, a6⟩ => g1.run pins s σ H v u Q I r (g2 R a1 v σ H G d e e' Q a2 a3 a4 a5 a6)⟩
  exact (pe_lc hc hN hi ok hg' ht he hs).imp (comp_imp (mg := X.mg) hsl fun R hR v σ H G d e e' Q a1 a2 a3 a4 a5 => ⟨R, G, d, e, e', hR, a1, a2, a3, a4, a5⟩)
end
end DL

namespace DL
open PySem PySem.Spec PyProof.Rows L2
open PySem.Builtin.Int (intBits)

/-! ### a name that never holds a list to be changed -/
def eVarS (i : Nat) : Env → Res D := fun e => match e[i]? with
  | some (some (d, false)) => .ok d
  | _ => .bad
section
variable {X : Cx} {W : WX} {A : Nat → Prop} {a b : Expr} {rest : List Expr} {pos p p1 p2 : Pos} {x T : Str} {H0 : Bas} {G0 : Hp}
theorem de_vs {i : Nat} {x : Str} {pos : Pos} (hN : X.N[i]? = some x) (hv : Vis X.env.scope x) (hd : (x == ("__debug__" : Str)) = false := by decide) (hcd : (x == ("__classdict__" : Str)) = false := by decide) : DE X W A (.Name x pos) (eVarS i) :=
  (pe_var hN hv hd hcd).imp fun σ H Q ⟨e, G, E, p⟩ => by
    unfold eVarS at p
    cases h : e[i]? with
    | none => rw [h] at p; exact p.elim
    | some s => cases s with
      | none => rw [h] at p; exact p.elim
      | some z =>
        obtain ⟨d, o⟩ := z
        rw [h] at p
        cases o with
        | true => exact p.elim
        | false =>
          obtain ⟨v, h1, h2, h3⟩ := E.val i d false h
          exact ⟨v, h1, p.here E.sub v (h2 (.inr rfl))⟩

/-! ### isinstance -/
/-- the name of the data's own type -/
def D.tyN : D → Option String
  | .non => some "NoneType"
  | .bl _ => some "bool"
  | .int _ => some "int"
  | .str _ => some "str"
  | .tup _ => some "tuple"
  | .con _ => some "tuple"
  | .lst _ => some "list"
  | _ => none
def isInt : D → Res D
  | .int _ => .ok (.bl true)
  | .bl _ => .ok (.bl true)
  | d => if d.tyN = none then .bad else .ok (.bl false)
def isBool : D → Res D
  | .bl _ => .ok (.bl true)
  | d => if d.tyN = none then .bad else .ok (.bl false)
def isTup : D → Res D
  | .tup _ => .ok (.bl true)
  | .con _ => .ok (.bl true)
  | d => if d.tyN = none then .bad else .ok (.bl false)
def isStr : D → Res D
  | .str _ => .ok (.bl true)
  | d => if d.tyN = none then .bad else .ok (.bl false)
def isList : D → Res D
  | .lst _ => .ok (.bl true)
  | d => if d.tyN = none then .bad else .ok (.bl false)
/-- g says which data is of the type T -/
def IsOf (T : String) (g : D → Res D) : Prop := ∀ d, (∀ t, d.tyN = some t → ∃ b, kitB t T = some b ∧ g d = .ok (.bl b)) ∧ (d.tyN = none → g d = .bad)
theorem is_int : IsOf "int" isInt := fun d => ⟨fun t h => by cases d <;> cases h <;> exact ⟨_, by decide +kernel, rfl⟩, fun h => by cases d <;> first | rfl | cases h⟩
theorem is_bool : IsOf "bool" isBool := fun d => ⟨fun t h => by cases d <;> cases h <;> exact ⟨_, by decide +kernel, rfl⟩, fun h => by cases d <;> first | rfl | cases h⟩
theorem is_tup : IsOf "tuple" isTup := fun d => ⟨fun t h => by cases d <;> cases h <;> exact ⟨_, by decide +kernel, rfl⟩, fun h => by cases d <;> first | rfl | cases h⟩
theorem tyX {K : PySem.W.Frag} {H G : Hp} {d : D} {v : V} {t : String} (g : Sub G H) (r : RepC K H G d v) (h : d.tyN = some t) : TyX K H v (.type t) := by
  cases d with
  | non => cases h; cases (show v = .non from r); exact .base .non
  | bl b => cases h; cases (show v = .bl b from r); exact .base (.bl b)
  | int i => cases h; cases (show v = .int i from r); exact .base (.int i)
  | str x => cases h; cases (show v = .str x from r); exact .base (.str x)
  | tup ds =>
    cases h
    obtain ⟨a, vs, e, s, _⟩ := (show Rep K G (.tup ds) v from r)
    subst e
    rcases g.pt (K := K) s with (q | ⟨o, q⟩) | ⟨o, its, n, q1, q2, _⟩
    · exact .base (.tup q)
    · exact .fTuple q
    · exact .kTuple q1 q2
  | con ds =>
    cases h
    obtain ⟨a, vs, e, s, _⟩ := (show Rep K G (.con ds) v from r)
    subst e
    rcases g.sqt (K := K) s.sqt with (q | ⟨o, q⟩) | ⟨o, its, n, q1, q2, _⟩
    · exact .base (.tup q)
    · exact .fTuple q
    · exact .kTuple q1 q2
  | lst ds =>
    cases h
    obtain ⟨a, vs, e, s, _⟩ := r
    subst e
    rcases s with (q | ⟨o, q⟩) | ⟨o, its, n, q1, q2, _⟩
    · exact .base (.lst q)
    · exact .base (.frz q)
    · exact .kList q1 q2
  | _ => cases h
theorem de_isi {x T : Str} {n : String} {g : D → Res D} {f : Env → Res D} (ho : IsOf n g) (hg : Gl X x) (hm : X.mg x = none) (hv : bootBuiltins x = some (.builtin "isinstance")) (ha : DR X W A a f) (hgT : Gl X T) (hmT : X.mg T = none) (hvT : bootBuiltins T = some (.type n))
    (hnx : x ≠ "__name__" := by decide) (hnT : T ≠ "__name__" := by decide) (hdT : (T == ("__debug__" : Str)) = false := by decide) (hdb : (x == ("__debug__" : Str)) = false := by decide)
    (he : starEach (a :: [.Name T p2]) X.env = (false, eval a X.env) :: starEach [.Name T p2] X.env := by rfl) (he2 : starEach (.Name T p2 :: []) X.env = (false, eval (.Name T p2) X.env) :: starEach [] X.env := by rfl) (hpl : (backTo pos (starEach [.Name T p2] X.env)).any (·.1) = false := by rfl) :
    DE X W A (.Call (.Name x p) [a, .Name T p2] [] pos) (e1 g f) := by
  refine (pe_callB call_isi hg hm hv (pa_cons ha (pa_cons (pe_bltn hgT hmT hvT (v := .ty n) rfl hnT hdT) pa_nil he2) he) hnx hdb he hpl).imp fun σ H Q ⟨e, G, E, p⟩ => ?_
  refine ⟨e, G, E, p.split.imp fun d H1 G1 x1 p1 v rv => ?_⟩
  cases ht : d.tyN with
  | none => rw [(ho d).2 ht] at p1; exact p1.elim
  | some t =>
    obtain ⟨b, k1, k2⟩ := (ho d).1 t ht
    rw [k2] at p1
    exact ⟨v, .ty n, .type t, .type n, b, rfl, .ty n, tyX x1.gh rv ht, kit_ty k1, p1.val x1.gh rfl⟩

/-! ### raise, try -/
structure ExcOk (K : PySem.W.Frag) (mg : Str → Option Value) (c : String) : Prop where
  ok : ∃ C B newId initId bmB, PySem.ExcBaseFacts B newId initId bmB ∧ PySem.W.excIn K C bmB newId = true ∧ mg (Str.ofString c) = some (.ref C) ∧ PySem.W.keepIn K (.ref C) = true ∧
    PySem.W.subIn K (.ref C) (.type "BaseException") = some true ∧ PySem.W.typeIn K (.ref C) = some (.type "type")
def sRaise (c : String) : Env → Out := fun e => .ex c [] e
/-- what "except X" does at each class -/
def Clause (K : PySem.W.Frag) (mg : Str → Option Value) (c : Value) (h : String → Option Bool) : Prop := ∀ k b cls, h k = some b → mg (Str.ofString k) = some cls → PySem.W.exmOne K cls c = some b
/-- nothing is raised out of here -/
def noEx (r : Out) : Out := match r with
  | .ex _ _ _ => .bad
  | r => r
def sTry (h : String → Option Bool) (fb fs : Env → Out) : Env → Out := fun e => match fb e with
  | .ex c fs' e' => match h c with
    | some true => noEx (fs e')
    | some false => .ex c fs' e'
    | none => .bad
  | r => r
end
end DL

namespace DL
open PySem PySem.Spec PyProof.Rows L2
open PySem.Builtin.Int (intBits)

theorem _root_.L2.Room.hu {k : Nat} {A : Around} (h : Room k A) : A.units + 64 < cLine := by have := h.un; omega
theorem CallOk.up {P : Program} {w : World} {K : PySem.W.Frag} {mg : Str → Option Value} {base : Heap} {j k : Nat} {x : Str} {ps : List Str} {F : List D → Res D} (h : CallOk P w K mg base j x ps F) (hjk : j ≤ k) : CallOk P w K mg base k x ps F := by
  obtain ⟨f, fd, a, b, c, d⟩ := h.ok
  exact ⟨f, fd, a, b, c, d.mono hjk⟩
end DL

namespace DL
open PySem PySem.Spec PyProof.Rows L2
open PySem.Builtin.Int (intBits)
/-! ### which classes an "except" names -/
theorem Clause.nil {K : PySem.W.Frag} {mg : Str → Option Value} {c : Value} : Clause K mg c (fun _ => none) := fun k b cls h _ => by cases h
theorem Clause.cons {K : PySem.W.Frag} {mg : Str → Option Value} {c : Value} {n : String} {C : Addr} {b : Bool} {f : String → Option Bool} (hm : mg (Str.ofString n) = some (.ref C)) (he : PySem.W.exmOne K (.ref C) c = some b) (t : Clause K mg c f) : Clause K mg c (fun s => if s = n then some b else f s) := fun k b' cls h hc => by
  dsimp only at h
  by_cases hk : k = n
  · subst hk
    rw [if_pos rfl] at h
    cases h
    rw [hm] at hc
    cases hc
    exact he
  · rw [if_neg hk] at h
    exact t k b' cls h hc
/-! ### a module's constant -/
structure ConOk (K : PySem.W.Frag) (mg : Str → Option Value) (x : String) (d : D) : Prop where
  ok : ∃ u v, mg (Str.ofString x) = some u ∧ RelV v u ∧ ∀ G, Rep K G d v
theorem de_con {X : Cx} {W : WX} {A : Nat → Prop} {x : String} {d : D} {pos : Pos} (h : ConOk X.K X.mg x d) (hg : Gl X (Str.ofString x)) (hd : (Str.ofString x == ("__debug__" : Str)) = false := by decide) : DE X W A (.Name (Str.ofString x) pos) (eC d) := by
  obtain ⟨u, v, h1, h2, h3⟩ := h.ok
  exact de_glob hg h1 h2 h3 hd
/-- a value of the written part is the data d -/
structure Con (K : PySem.W.Frag) (d : D) (u : Value) : Prop where
  ok : ∃ v, RelV v u ∧ ∀ G, Rep K G d v
theorem Con.int {K : PySem.W.Frag} {i : Int} {t : Tok} : Con K (.int i) (.int i t) := ⟨.int i, ⟨t, rfl⟩, fun _ => rfl⟩
theorem Con.str {K : PySem.W.Frag} {x : Str} {t : Tok} : Con K (.str x) (.str x t) := ⟨.str x, ⟨t, rfl⟩, fun _ => rfl⟩
def Cons (K : PySem.W.Frag) : List D → List Value → Prop
  | [], us => us = []
  | d :: ds, us => ∃ u r, us = u :: r ∧ Con K d u ∧ Cons K ds r
theorem Cons.rep {K : PySem.W.Frag} : ∀ {ds : List D} {us : List Value}, Cons K ds us → ∃ vs, Vals vs us ∧ ∀ G, RepL K G ds vs
  | [], _, rfl => ⟨[], .nil, fun _ => rfl⟩
  | d :: ds, _, ⟨u, r, rfl, h, t⟩ => by
    obtain ⟨v, h1, h2⟩ := h.ok
    obtain ⟨vs, h3, h4⟩ := Cons.rep t
    exact ⟨v :: vs, .cons h1 h3, fun G => ⟨v, vs, rfl, h2 G, h4 G⟩⟩
theorem Con.tup {K : PySem.W.Frag} {a : Addr} {us : List Value} {n : Nat} {sl : Array (Option Value)} {ds : List D} (h : K.lookup a = some ⟨.type "tuple", none, .seq us.toArray n, sl⟩) (c : Cons K ds us) (hn : us.length ≤ 1000) : Con K (.con ds) (.ref a) := by
  obtain ⟨vs, h3, h4⟩ := c.rep
  refine ⟨.ref a, rfl, fun G => ⟨a, vs, rfl, .inr ⟨_, _, n, h, rfl, rfl, rfl, ?_, by simpa using h3⟩, h4 G⟩⟩
  rw [PySem.sizeLine_eq]
  simp
  omega
theorem Con.at {K : PySem.W.Frag} {mg : Str → Option Value} {x : String} {d : D} {u : Value} (h : Con K d u) (hm : mg (Str.ofString x) = some u) : ConOk K mg x d := by
  obtain ⟨v, h1, h2⟩ := h.ok
  exact ⟨u, v, hm, h1, h2⟩
end DL

namespace DL
open PySem PySem.Spec PyProof.Rows L2
open PySem.Builtin.Int (intBits)
/-! ### range of three -/
def prog3 (i c : Int) (n : Nat) : List D := (List.range n).map fun k => D.int (i + (k : Nat) * c)
open Classical in
noncomputable def rg3 (i j c : Int) : Res (List D) := if h : ∃ n, RgC i j c n then .ok (prog3 i c (Classical.choose h)) else .bad
noncomputable def r3D : D → D → D → Res (List D) := fun x y z => match x, y, z with
  | .int i, .int j, .int c => rg3 i j c
  | _, _, _ => .bad
noncomputable def iRange3 (f g h : DL.Env → Res D) : DL.Env → Res (List D) := fun e => (f e).bind fun x => (g e).bind fun y => (h e).bind fun z => r3D x y z
section
variable {X : Cx} {W : WX} {A : Nat → Prop} {a b c : Expr} {pos : Pos}
/-- x, y = a, b with no tuple made -/
def sPar (al : List Nat) (i j : Nat) (fs : DL.Env → Res (List D)) : DL.Env → Out := sE al fs fun ds e => match ds with
  | [x, y] => .nx ((e.set i (some (x, false))).set j (some (y, false)))
  | _ => .bad
/-! ### zip of two -/
end
end DL

namespace DL
open PySem PySem.Spec PyProof.Rows L2
open PySem.Builtin.Int (intBits)
/-! ### str of truth values and numbers -/
def dStr : D → Res D
  | .bl b => .ok (.str (if b = true then "True" else "False"))
  | _ => .bad
/-! ### except X as e -/
theorem StOk.clear {K : PySem.W.Frag} {H0 : Bas} {G0 H G : Hp} {σ : L2.St} {e : DL.Env} (S : StOk K H0 G0 σ e H G) (i : Nat) : StOk K H0 G0 (σ.set i none) (e.set i none) H G := by
  have get : ∀ (j : Nat) (z : D × Bool), (e.set i none)[j]? = some (some z) → i ≠ j ∧ e[j]? = some (some z) := fun j z h => by
    by_cases hj : i = j
    · subst hj
      rw [List.getElem?_set] at h
      split at h
      · split at h <;> cases h
      · rename_i k; exact absurd rfl k
    · rw [List.getElem?_set_ne hj] at h
      exact ⟨hj, h⟩
  refine ⟨S.ext, by rw [List.length_set, List.length_set]; exact S.len, fun j d h => ?_, fun j d h => ?_, fun j k d d' a h1 h2 h3 h4 => ?_, fun j a d hp h => ?_⟩
  · obtain ⟨hj, h'⟩ := get j _ h
    rw [List.getElem?_set_ne hj]
    exact S.sh j d h'
  · obtain ⟨hj, h'⟩ := get j _ h
    rw [List.getElem?_set_ne hj]
    exact S.ow j d h'
  · obtain ⟨hj, h1'⟩ := get j _ h1
    obtain ⟨hk, h2'⟩ := get k _ h2
    rw [List.getElem?_set_ne hj] at h3
    rw [List.getElem?_set_ne hk] at h4
    exact S.ne j k d d' a h1' h2' h3 h4
  · obtain ⟨hj, h'⟩ := get j _ h
    rw [List.getElem?_set_ne hj]
    exact S.pn j a d hp h'
/-- the error's name is gone behind the suite; nothing is raised out of it -/
def clrN (i : Nat) : Out → Out
  | .nx e => .nx (e.set i none)
  | .bk e => .bk (e.set i none)
  | .ct e => .ct (e.set i none)
  | .rt d => .rt d
  | .ro d => .ro d
  | .rm d e => .rm d (e.set i none)
  | _ => .bad
open Classical in
/-- what is so at every address -/
noncomputable def unif (g : Addr → Out) : Out := if h : ∃ r, ∀ a, g a = r then Classical.choose h else .bad
theorem unif_at {g : Addr → Out} (h : unif g ≠ .bad) (a : Addr) : unif g = g a := by
  unfold unif at h ⊢
  by_cases hx : ∃ r, ∀ a, g a = r
  · rw [dif_pos hx]; exact (Classical.choose_spec hx a).symm
  · rw [dif_neg hx] at h; exact absurd rfl h
noncomputable def sTryAs (i : Nat) (h : String → Option Bool) (fb : DL.Env → Out) (fs : Addr → String → DL.Env → Out) : DL.Env → Out := fun e => match fb e with
  | .ex c fs' e' => match h c with
    | some true => if fs' = [] then unif fun a => clrN i (fs a c (e'.set i (some (.obj (.ref a), false)))) else .bad
    | some false => .ex c fs' e'
    | none => .bad
  | r => r
section
variable {X : Cx} {W : WX} {A : Nat → Prop} {a b : Expr} {rest : List Expr} {pos p p1 p2 : Pos} {H0 : Bas} {G0 : Hp}
/-! ### isinstance of the caught error -/
def IsTab (K : PySem.W.Frag) (mg : Str → Option Value) (cv : Value) (t : String → Option Bool) : Prop := ∀ c b cls, t c = some b → mg (Str.ofString c) = some cls → ∃ C, cls = .ref C ∧ ExcC K C ∧ PySem.W.kitOne K (.ref C) cv = some b
theorem IsTab.nil {K : PySem.W.Frag} {mg : Str → Option Value} {cv : Value} : IsTab K mg cv (fun _ => none) := fun c b cls h _ => by cases h
theorem IsTab.cons {K : PySem.W.Frag} {mg : Str → Option Value} {cv : Value} {n : String} {C : Addr} {b : Bool} {f : String → Option Bool} (hm : mg (Str.ofString n) = some (.ref C)) (hc : ExcC K C) (he : PySem.W.kitOne K (.ref C) cv = some b) (t : IsTab K mg cv f) : IsTab K mg cv (fun s => if s = n then some b else f s) := fun k b' cls h hcl => by
  dsimp only at h
  by_cases hk : k = n
  · subst hk
    rw [if_pos rfl] at h
    cases h
    rw [hm] at hcl
    cases hcl
    exact ⟨C, rfl, hc, he⟩
  · rw [if_neg hk] at h
    exact t k b' cls h hcl
def eIsE (i : Nat) (a : Addr) (o : Option Bool) : DL.Env → Res D := fun e => match e[i]? with
  | some (some (.obj (.ref a'), false)) => if a' = a then (match o with | some b => .ok (.bl b) | none => .bad) else .bad
  | _ => .bad
end
end DL

namespace DL
open PySem PySem.Spec PyProof.Rows L2
open PySem.Builtin.Int (intBits)
/-! ### dicts: the data -/
open Classical in
/-- what stands at a key -/
noncomputable def dFind (kvs : List (D × D)) (k : D) : Option D := (kvs.find? fun p => decide (p.1 = k)).map (·.2)
open Classical in
/-- a key set -/
noncomputable def dSet (kvs : List (D × D)) (k d : D) : List (D × D) := if (kvs.any fun p => decide (p.1 = k)) = true then kvs.map (fun p => if p.1 = k then (p.1, d) else p) else kvs ++ [(k, d)]
theorem keyD_inj {a b : Key} (h : keyD a = keyD b) : a = b := by
  cases a <;> cases b <;> simp [keyD] at h <;> rw [h]
theorem keyT_inj : ∀ {a b : List Key}, keyT a = keyT b → a = b := by
  intro a b h
  unfold keyT at h
  injection h with h
  induction a generalizing b with
  | nil => cases b with
    | nil => rfl
    | cons _ _ => simp at h
  | cons x a ih => cases b with
    | nil => simp at h
    | cons y b =>
      simp only [List.map_cons, List.cons.injEq] at h
      rw [keyD_inj h.1, ih h.2]
section
variable {κ : Type} [DecidableEq κ] {f : κ → D} {K : PySem.W.Frag} {G : Hp}
theorem repv_find (hf : ∀ a b, f a = f b → a = b) : ∀ {kvs : List (D × D)} {ps : List (κ × V)}, kvs.map (·.1) = ps.map (fun p => f p.1) → RepV K G kvs (ps.map (·.2)) → ∀ k : κ,
    (dFind kvs (f k) = none ∧ valV ps k = none) ∨ ∃ d v, dFind kvs (f k) = some d ∧ valV ps k = some v ∧ Rep K G d v
  | [], [], _, _, k => .inl ⟨rfl, rfl⟩
  | [], _ :: _, h, _, _ => by simp at h
  | _ :: _, [], h, _, _ => by simp at h
  | (k0, d0) :: kvs, (c0, v0) :: ps, h, r, k => by
    simp only [List.map_cons, List.cons.injEq] at h
    obtain ⟨v, r', e, r1, r2⟩ := r
    simp only [List.map_cons, List.cons.injEq] at e
    obtain ⟨e1, e2⟩ := e
    subst e1 e2
    have ih := repv_find hf h.2 r2 k
    have hk0 : k0 = f c0 := h.1
    subst hk0
    by_cases hk : c0 = k
    · subst hk
      refine .inr ⟨d0, v0, ?_, ?_, r1⟩
      · simp [dFind]
      · simp [valV]
    · have hk' : ¬ f c0 = f k := fun z => hk (hf _ _ z)
      have e1 : dFind ((f c0, d0) :: kvs) (f k) = dFind kvs (f k) := by simp [dFind, hk']
      have e2 : valV ((c0, v0) :: ps) k = valV ps k := by simp [valV, hk]
      rw [e1, e2]
      exact ih
theorem any_same (hf : ∀ a b, f a = f b → a = b) : ∀ {kvs : List (D × D)} {ps : List (κ × V)}, kvs.map (·.1) = ps.map (fun p => f p.1) → ∀ k : κ,
    (∃ p ∈ kvs, p.1 = f k) ↔ ∃ p ∈ ps, p.1 = k
  | [], [], _, k => by simp
  | [], _ :: _, h, _ => by simp at h
  | _ :: _, [], h, _ => by simp at h
  | (k0, d0) :: kvs, (c0, v0) :: ps, h, k => by
    simp only [List.map_cons, List.cons.injEq] at h
    have ih := any_same hf h.2 k
    have hk0 : k0 = f c0 := h.1
    subst hk0
    simp only [List.mem_cons, exists_eq_or_imp, ih]
    constructor
    · rintro (z | z)
      · exact .inl (hf _ _ z)
      · exact .inr z
    · rintro (z | z)
      · exact .inl (by rw [z])
      · exact .inr z
open Classical in
theorem repv_map (hf : ∀ a b, f a = f b → a = b) {d : D} {v : V} (rd : Rep K G d v) (k : κ) : ∀ {kvs : List (D × D)} {ps : List (κ × V)}, kvs.map (·.1) = ps.map (fun p => f p.1) → RepV K G kvs (ps.map (·.2)) →
    (kvs.map (fun p => if p.1 = f k then (p.1, d) else p)).map (·.1) = (ps.map fun kv => if kv.1 = k then (kv.1, v) else kv).map (fun p => f p.1) ∧ RepV K G (kvs.map (fun p => if p.1 = f k then (p.1, d) else p)) ((ps.map fun kv => if kv.1 = k then (kv.1, v) else kv).map (·.2))
  | [], [], _, _ => ⟨rfl, rfl⟩
  | [], _ :: _, h, _ => by simp at h
  | _ :: _, [], h, _ => by simp at h
  | (k0, d0) :: kvs, (c0, v0) :: ps, h, r => by
    simp only [List.map_cons, List.cons.injEq] at h
    obtain ⟨v1, r', e, r1, r2⟩ := r
    simp only [List.map_cons, List.cons.injEq] at e
    obtain ⟨e1, e2⟩ := e
    subst e1 e2
    obtain ⟨a, b⟩ := repv_map hf rd k h.2 r2
    have hk0 : k0 = f c0 := h.1
    subst hk0
    by_cases hk : c0 = k
    · subst hk
      simp only [List.map_cons, if_true]
      exact ⟨by rw [← a], v, _, rfl, rd, b⟩
    · have hk' : ¬ f c0 = f k := fun z => hk (hf _ _ z)
      simp only [List.map_cons, if_neg hk, if_neg hk']
      exact ⟨by rw [← a], v0, _, rfl, r1, b⟩
theorem repv_app : ∀ {kvs : List (D × D)} {vs : List V} {k d : D} {v : V}, RepV K G kvs vs → Rep K G d v → RepV K G (kvs ++ [(k, d)]) (vs ++ [v])
  | [], _, k, d, v, rfl, h => ⟨v, [], rfl, h, rfl⟩
  | (_, d0) :: kvs, _, k, d, v, ⟨v0, r', e, r1, r2⟩, h => ⟨v0, r' ++ [v], by rw [e]; rfl, r1, repv_app r2 h⟩
/-- a key set: data and values stay together -/
theorem repv_set (hf : ∀ a b, f a = f b → a = b) {kvs : List (D × D)} {ps : List (κ × V)} (h : kvs.map (·.1) = ps.map (fun p => f p.1)) (r : RepV K G kvs (ps.map (·.2))) {d : D} {v : V} (rd : Rep K G d v) (k : κ) :
    (dSet kvs (f k) d).map (·.1) = (putK ps k v).map (fun p => f p.1) ∧ RepV K G (dSet kvs (f k) d) ((putK ps k v).map (·.2)) := by
  have ha := any_same hf h k
  unfold dSet putK
  by_cases hx : ∃ p ∈ ps, p.1 = k
  · rw [if_pos (by simpa using ha.mpr hx), if_pos (by simpa using hx)]
    exact repv_map hf rd k h r
  · have hy : ¬ ∃ p ∈ kvs, p.1 = f k := fun z => hx (ha.mp z)
    rw [if_neg (by simpa using hy), if_neg (by simpa using hx)]
    refine ⟨by simp [h], ?_⟩
    rw [List.map_append]
    exact repv_app r rd
end
end DL

namespace DL
open PySem PySem.Spec PyProof.Rows L2
open PySem.Builtin.Int (intBits)
/-! ### dicts: the rules -/
def eDNew (t : Bool) : DL.Env → Res D := fun _ => .ok (.dct t [])
section
variable {X : Cx} {W : WX} {A : Nat → Prop} {a b : Expr} {rest : List Expr} {pos p p1 p2 apos cpos : Pos} {H0 : Bas} {G0 : Hp}
theorem df_dnewK : DF X W A (.Dict [] [] pos) (eDNew false) :=
  pe_dnewK.imp fun σ H Q ⟨e, G, E, q⟩ p hp => q (upd H p (.dK [])) G ⟨Sub.upd hp, Sub.refl _, E.sub.trans (Sub.upd hp), fun b z => .inl z⟩ p hp (E.sub.free hp) (.inl ⟨rfl, [], upd_same, rfl, rfl⟩)
/-- a key that fits the dict's kind -/
def D.isKey : D → Bool
  | .int _ => true
  | .str _ => true
  | _ => false
def D.keyOk (t : Bool) : D → Bool
  | .tup ds => t && ds.all D.isKey
  | d => !t && d.isKey
theorem key_of {d : D} (h : d.isKey = true) : ∃ k : Key, d = keyD k := by
  cases d with
  | int i => exact ⟨.inl i, rfl⟩
  | str x => exact ⟨.inr x, rfl⟩
  | _ => cases h
theorem keys_of : ∀ {ds : List D}, ds.all D.isKey = true → ∃ ks : List Key, ds = ks.map keyD
  | [], _ => ⟨[], rfl⟩
  | d :: ds, h => by
    simp only [List.all_cons, Bool.and_eq_true] at h
    obtain ⟨k, e⟩ := key_of h.1
    obtain ⟨ks, e2⟩ := keys_of h.2
    exact ⟨k :: ks, by rw [e, e2]; rfl⟩
theorem rep_key {K : PySem.W.Frag} {G : Hp} {k : Key} {v : V} (r : Rep K G (keyD k) v) : v = kV k := by
  cases k with
  | inl i => exact r
  | inr x => exact r
theorem rep_keys {K : PySem.W.Frag} {G : Hp} : ∀ {ks : List Key} {vs : List V}, RepL K G (ks.map keyD) vs → vs = ks.map kV
  | [], _, h => h
  | k :: ks, _, ⟨v, r, e, h1, h2⟩ => by rw [e, rep_key h1, rep_keys h2]; rfl
/-- what a dict tells at a key -/
theorem dget_rep {K : PySem.W.Frag} {H G : Hp} {t : Bool} {kvs : List (D × D)} {a : Addr} {k : D} {y : V} (sg : Sub G H) (r : RepC K H G (.dct t kvs) (.ref a)) (hk : D.keyOk t k = true) (ry : Rep K G k y) :
    ∃ o, DGet H a y o ∧ ((dFind kvs k = none ∧ o = none) ∨ ∃ d v, dFind kvs k = some d ∧ o = some v ∧ Rep K G d v) := by
  obtain ⟨a', ea, h⟩ := r
  cases ea
  rcases h with ⟨t0, ps, s, hkeys, rv⟩ | ⟨t0, ps, s, hkeys, rv⟩
  · subst t0
    have hk' : k.isKey = true := by
      cases k with
      | tup ds => simp [D.keyOk] at hk
      | _ => simpa [D.keyOk] using hk
    obtain ⟨κ, e⟩ := key_of hk'
    subst e
    refine ⟨valV ps κ, .inl ⟨ps, κ, s, rep_key ry, rfl⟩, ?_⟩
    exact repv_find (fun _ _ => keyD_inj) hkeys rv κ
  · subst t0
    cases k with
    | tup ds =>
      have hk' : ds.all D.isKey = true := by simpa [D.keyOk] using hk
      obtain ⟨ks, e⟩ := keys_of hk'
      subst e
      obtain ⟨b, vs, e1, e2, e3⟩ := ry
      have := rep_keys e3
      subst this
      refine ⟨valV ps ks, .inr ⟨ps, ks, b, s, e1, sg _ _ e2, rfl⟩, ?_⟩
      exact repv_find (f := keyT) (fun _ _ => keyT_inj) hkeys rv ks
    | _ => simp [D.keyOk] at hk
/-- d[k] -/
noncomputable def dAt : D → D → Res D := fun d k => match d with
  | .dct t kvs => if D.keyOk t k = true then (match dFind kvs k with | some x => .ok x | none => .bad) else .bad
  | _ => .bad
theorem de_dix {fa fb : DL.Env → Res D} (hu : X.A.units + 1 < cLine) (ha : DR X W A a fa) (hb : DE X W A b fb) (hs : NoSl b) : DE X W A (.Subscript a b pos) (eOp dAt fa fb) :=
  (pe_dget hu ha hb hs).imp fun σ H Q ⟨e, G, E, q⟩ => ⟨e, G, E, q.split.imp fun d H1 G1 x1 q1 v rv => ⟨e, G1, E.ext x1, q1.split.imp fun k H2 G2 x2 q2 y ry => by
    have rv := rv.mono x2.hh x2.gg
    cases d with
    | dct t kvs =>
      dsimp only [dAt] at q2
      by_cases hk : D.keyOk t k = true
      · rw [if_pos hk] at q2
        obtain ⟨a', ea, _⟩ := id rv
        subst ea
        obtain ⟨o, h1, h2⟩ := dget_rep x2.gh rv hk ry
        rcases h2 with ⟨e1, e2⟩ | ⟨d, w, e1, e2, e3⟩
        · rw [e1] at q2; exact q2.elim
        · rw [e1] at q2
          subst e2
          exact ⟨a', w, rfl, h1, q2.here x2.gh w e3⟩
      · rw [if_neg hk] at q2; exact q2.elim
    | _ => exact (show False from q2).elim⟩⟩
/-- d.get(k, x) -/
noncomputable def dGet2 : D → D → D → Res D := fun d k x => match d with
  | .dct t kvs => if D.keyOk t k = true then .ok ((dFind kvs k).getD x) else .bad
  | _ => .bad
noncomputable def eGet2 (fa fb fc : DL.Env → Res D) : DL.Env → Res D := fun e => (fa e).bind fun d => match d with
  | .dct t kvs => (fb e).bind fun k => (fc e).bind fun x => dGet2 (.dct t kvs) k x
  | _ => .bad
theorem de_get2 {c : Expr} {fa fb fc : DL.Env → Res D} (hu : X.A.units + 1 < cLine) (ha : DR X W A a fa) (hb : DE X W A b fb) (hc : DE X W A c fc) (m : M2 X a "get" apos b c cpos) : DE X W A (.Call (.Attribute a "get" apos) [b, c] [] cpos) (eGet2 fa fb fc) :=
  (pe_dget2 hu ha hb hc m).imp fun σ H Q ⟨e, G, E, q⟩ => ⟨e, G, E, q.split.imp fun d H1 G1 x1 q1 v rv => by
    cases d with
    | dct t kvs =>
      dsimp only at q1
      obtain ⟨a', ea, hd⟩ := id rv
      subst ea
      refine ⟨a', rfl, ?_, e, G1, E.ext x1, q1.split.imp fun k H2 G2 x2 q2 y ry => ⟨e, G2, (E.ext x1).ext x2, q2.split.imp fun x H3 G3 x3 q3 z rz => ?_⟩⟩
      · rcases hd with ⟨_, ps, s, _⟩ | ⟨_, ps, s, _⟩
        · exact .inl ⟨ps, s⟩
        · exact .inr ⟨ps, s⟩
      · have rv := (rv.mono x2.hh x2.gg).mono x3.hh x3.gg
        dsimp only [dGet2] at q3
        by_cases hk : D.keyOk t k = true
        · rw [if_pos hk] at q3
          obtain ⟨o, h1, h2⟩ := dget_rep x3.gh rv hk (ry.mono x3.gg)
          rcases h2 with ⟨e1, e2⟩ | ⟨d, w, e1, e2, e3⟩
          · rw [e1] at q3
            subst e2
            exact ⟨none, h1, q3.here x3.gh z rz⟩
          · rw [e1] at q3
            subst e2
            exact ⟨some w, h1, q3.here x3.gh w e3⟩
        · rw [if_neg hk] at q3; exact q3.elim
    | _ => exact (show False from q1).elim⟩
end
end DL

namespace DL
open PySem PySem.Spec PyProof.Rows L2
open PySem.Builtin.Int (intBits)
theorem _root_.L2.Room.hu1 {k : Nat} {A : Around} (h : Room k A) : A.units + 1 < cLine := by have := h.un; omega
/-- the dict that the name i holds, to be changed -/
def ownD (i : Nat) (e : DL.Env) (k : Bool → List (D × D) → Out) : Out := match e[i]? with
  | some (some (.dct t kvs, true)) => k t kvs
  | _ => .bad
/-- x[k] = v -/
noncomputable def sPutD (al : List Nat) (i : Nat) (fk fv : DL.Env → Res D) : DL.Env → Out := fun e => ownD i (fz al e) fun t kvs => sE al (fun e => (fv e).bind fun v => (fk e).bind fun k => .ok (k, v)) (fun kv e' =>
  if D.keyOk t kv.1 = true ∧ kvs.length < sizeLine then .nx (e'.set i (some (.dct t (dSet kvs kv.1 kv.2), true))) else .bad) e
section
variable {X : Cx} {W : WX} {H0 : Bas} {G0 : Hp} {al : List Nat} {pos p1 p2 : Pos}
theorem ownD_inv {i : Nat} {e : DL.Env} {k : Bool → List (D × D) → Out} {Z : Ends} {K : PySem.W.Frag} {mg : Str → Option Value} (p : SPost K mg W H0 G0 (ownD i e k) Z) : ∃ t kvs, e[i]? = some (some (.dct t kvs, true)) ∧ SPost K mg W H0 G0 (k t kvs) Z := by
  unfold ownD at p
  split at p
  · rename_i t kvs h; exact ⟨t, kvs, h, p⟩
  · exact p.elim
theorem ds_putD {i : Nat} {x : Str} {ik ev : Expr} {fk fv : DL.Env → Res D} (hu : X.A.units + 1 < cLine) (hN : X.N[i]? = some x) (hv : Vis X.env.scope x) (hk : DE X W (fun i => i ∈ al) ik fk) (he : DE X W (fun i => i ∈ al) ev fv)
    (hd : (x == ("__debug__" : Str)) = false := by decide) (hcd : (x == ("__classdict__" : Str)) = false := by decide)
    (hs : swapsWith ev (some (.Subscript (.Name x p1) ik p2)) pos.line X.env = pure false := by rfl) :
    DS X W H0 G0 (.Assign [.Subscript (.Name x p1) ik p2] ev pos) (sPutD al i fk fv) := by
  refine (ps_dput hu (pe_var hN hv hd hcd) hk he hs).lk fun Z σ H ⟨e, G, S, p⟩ => (S.exp al).imp fun H ⟨G1, GA, S0, E, nxt⟩ => ?_
  have S1 := nxt H GA (Ext.refl E.sub)
  obtain ⟨t, kvs, hx, p⟩ := ownD_inv p
  obtain ⟨a, q1, _, _, q4⟩ := S1.ow i _ hx
  unfold sE at p
  dsimp only at p
  refine ⟨e, GA, E, ?_⟩
  cases hr : fv e with
  | exc c fs' =>
    rw [hr] at p
    exact fun cls o H' s ix => p cls o σ H GA H' S1 s ix
  | bad => rw [hr] at p; exact p.elim
  | ok dv =>
    rw [hr] at p
    intro H1 G1 x1 v rv
    refine ⟨.ref a, q1, e, G1, E.ext x1, ?_⟩
    cases hr2 : fk e with
    | exc c fs' =>
      simp only [Res.bind_ok, hr2] at p
      exact fun cls o H' s ix => p cls o σ H1 G1 H' (nxt H1 G1 x1) s ix
    | bad => simp only [Res.bind_ok, hr2] at p; exact p.elim
    | ok dk =>
      simp only [Res.bind_ok, hr2] at p
      intro H2 G2 x2 k rk
      have xx := x1.trans x2
      have S2 := nxt H2 G2 xx
      have rv2 := rv.mono x2.gg
      by_cases hc : D.keyOk t dk = true ∧ kvs.length < sizeLine
      · rw [if_pos hc] at p
        have q4' := q4.mono xx.hh xx.gg
        rcases q4' with ⟨t0, ps, s, hkeys, rvv⟩ | ⟨t0, ps, s, hkeys, rvv⟩
        · subst t0
          have hk' : dk.isKey = true := by
            cases dk with
            | tup ds => simp [D.keyOk] at hc
            | _ => simpa [D.keyOk] using hc.1
          obtain ⟨κ, ek⟩ := key_of hk'
          subst ek
          have hl : ps.length < sizeLine := by
            have := congrArg List.length hkeys
            rw [List.length_map, List.length_map] at this
            omega
          obtain ⟨n1, n2⟩ := repv_set (fun _ _ => keyD_inj) hkeys rvv rv2 κ
          refine ⟨a, _, rfl, .inl ⟨ps, κ, s, rep_key rk, hl, rfl⟩, ?_⟩
          exact p σ _ G2 (S2.change hx q1 (.inl ⟨rfl, _, upd_same, n1, n2⟩))
        · subst t0
          cases dk with
          | tup ds =>
            have hk' : ds.all D.isKey = true := by simpa [D.keyOk] using hc.1
            obtain ⟨ks, ek⟩ := keys_of hk'
            subst ek
            obtain ⟨b, vs, e1, e2, e3⟩ := rk
            have ev' := rep_keys e3
            subst ev'
            have hl : ps.length < sizeLine := by
              have := congrArg List.length hkeys
              rw [List.length_map, List.length_map] at this
              omega
            obtain ⟨n1, n2⟩ := repv_set (f := keyT) (fun _ _ => keyT_inj) hkeys rvv rv2 ks
            refine ⟨a, _, rfl, .inr ⟨ps, ks, b, s, e1, xx.gh _ _ e2, hl, rfl⟩, ?_⟩
            exact p σ _ G2 (S2.change hx q1 (.inr ⟨rfl, _, upd_same, n1, n2⟩))
          | _ => simp [D.keyOk] at hc
      · rw [if_neg hc] at p; exact p.elim
/-- k in d, k not in d -/
noncomputable def dIn (no : Bool) : D → D → Res D := fun k d => match d with
  | .dct t kvs => if D.keyOk t k = true then .ok (.bl ((dFind kvs k).isSome != no)) else .bad
  | _ => .bad
theorem in_two {A : Nat → Prop} {fa fb : DL.Env → Res D} {no : Bool} {σ : L2.St} {H : Hp} {Q : VK} (h : tD X.K X.mg W A (eOp (dIn no) fa fb) σ H Q) :
    tD X.K X.mg W A fa σ H fun y H1 => tR X.K X.mg W A fb σ H1 fun x H2 => ∃ a o, x = V.ref a ∧ DGet H2 a y o ∧ Q (V.bl (o.isSome != no)) H2 := by
  obtain ⟨e, G, E, q⟩ := h
  refine ⟨e, G, E, q.split.imp fun k H1 G1 x1 q1 y ry => ⟨e, G1, E.ext x1, q1.split.imp fun d H2 G2 x2 q2 v rv => ?_⟩⟩
  cases d with
  | dct t kvs =>
    dsimp only [dIn] at q2
    by_cases hk : D.keyOk t k = true
    · rw [if_pos hk] at q2
      obtain ⟨a', ea, _⟩ := id rv
      subst ea
      obtain ⟨o, h1, h2⟩ := dget_rep x2.gh rv hk (ry.mono x2.gg)
      rcases h2 with ⟨e1, e2⟩ | ⟨d, w, e1, e2, e3⟩
      · rw [e1] at q2
        subst e2
        exact ⟨a', none, rfl, h1, q2.here x2.gh _ rfl⟩
      · rw [e1] at q2
        subst e2
        exact ⟨a', some w, rfl, h1, q2.here x2.gh _ rfl⟩
    · rw [if_neg hk] at q2; exact q2.elim
  | _ => exact (show False from q2).elim
theorem de_din {A : Nat → Prop} {a b : Expr} {fa fb : DL.Env → Res D} (hu : X.A.units + 1 < cLine) (ha : DE X W A a fa) (hb : DR X W A b fb) (hm : behindInMarks .In b = false := by rfl) : DE X W A (.Compare a [.In] [b] pos) (eOp (dIn false) fa fb) :=
  (pe_cmp (pc_din hu ha hb) hm).imp fun σ H Q h => by
    have := in_two h
    simp only [Bool.bne_false] at this
    exact this
theorem test_of {A : Nat → Prop} {f : DL.Env → Res D} {σ : L2.St} {H : Hp} {Q : Bool → Hp → Prop} (h : tT X.K X.mg W A (fun e => (f e).bind D.asB) σ H Q) : tD X.K X.mg W A f σ H fun v H' => ∃ k, v = .bl k ∧ Q k H' := by
  obtain ⟨e, G, E, q⟩ := h
  refine ⟨e, G, E, q.split.imp fun d H1 G1 x1 q1 v rv => ?_⟩
  cases d with
  | bl b => exact ⟨b, rv, q1.here x1.gh⟩
  | _ => exact (show False from q1).elim
theorem bTest_is (g : D → D → Res D) (fa fb : DL.Env → Res D) : bTest g fa fb = fun e => (eOp g fa fb e).bind D.asB := by
  funext e
  unfold bTest eOp
  cases fa e with
  | ok x => cases fb e with
    | ok y => rfl
    | exc c z => rfl
    | bad => rfl
  | exc c z => rfl
  | bad => rfl
theorem dt_dnotin {A : Nat → Prop} {a b : Expr} {fa fb : DL.Env → Res D} (hu : X.A.units + 1 < cLine) (ha : DE X W A a fa) (hb : DR X W A b fb) (hm : behindInMarks .NotIn b = false := by rfl) : DT X W A (.Compare a [.NotIn] [b] pos) (bTest (dIn true) fa fb) :=
  (pt_cmp (pc_dnotin hu ha hb) hm).imp fun σ H Q h => by
    rw [bTest_is] at h
    have := in_two (test_of h)
    simp only [Bool.bne_true] at this
    exact this
end
end DL

/-! sorting tuples of any lengths, empty ones too -/
namespace DL
open PySem PySem.W PySem.Calls PyProof.Rows PySem.SeqAt
section
variable {prog : Program} {w : World} {A : Around} {s : Shared}
def hasItem : PyData → Bool
  | .tuple (_ :: _) => true
  | _ => false
theorem firsts_tups {M : Model} {E : Value → Shared → Prop} : ∀ {vs : List Value} {ds : List PyData} {Q : List (Option Value) → Shared → Prop}, EachIs (fun v d => ∃ as, Reads s.heap v d as) vs ds → (∀ d, d ∈ ds → ∃ xs, d = .tuple xs) →
    (∀ fs : List (Option Value), fs.map (·.isSome) = ds.map hasItem → Q fs s) → wpAny M A (vs.mapM firstOfTuple') Q E s
  | _, _, Q, .nil, _, h => by rw [List.mapM_nil]; exact wpAny_pure (h [] rfl)
  | _, _, Q, .cons (a := v) (as := vs) (b := d) (bs := ds) ⟨as, r⟩ t, ht, h => by
    obtain ⟨xs, rfl⟩ := ht d (List.mem_cons_self ..)
    rw [List.mapM_cons]
    refine wpAny_bind ?_
    rw [kas_first_eq]
    cases r with
    | @tuple a o vals n _ _ ho hc hd hr =>
      refine wpAny_bind (Looks.here (show Looks M s.heap (typeOf (.ref a)) o.cls from (Looks.ld ho).andThen .now) ?_)
      rw [hc, if_neg (by first | decide | simp)]
      refine wpAny_bind (listItems_at ho hd (wpAny_pure ?_))
      refine wpAny_bind (firsts_tups t (fun d hd => ht d (List.mem_cons_of_mem _ hd)) fun fs hfs => wpAny_pure (h _ ?_))
      rw [List.map_cons, List.map_cons, hfs]
      congr 1
      rw [← Array.getElem?_toList]
      cases xs with
      | nil =>
        generalize vals.toList = l at hr
        cases hr
        rfl
      | cons x xs =>
        generalize vals.toList = l at hr
        cases hr
        rfl
/-- tuple.__lt__ asked straight -/
theorem oneLt_tups {x y : Addr} {d e : List PyData} {as bs : List Addr} {E : Value → Shared → Prop} {Q : Bool → Shared → Prop} (ra : Reads s.heap (.ref x) (.tuple d) as) (rb : Reads s.heap (.ref y) (.tuple e) bs) (hal : alike (.tuple d) (.tuple e) = true)
    (hu : A.units + min (PyData.tuple d).depth (PyData.tuple e).depth < cLine) (h : Q (dataLt (.tuple d) (.tuple e)) s) : wpAny (model prog w) A (oneLt' true (.ref x) (.ref y)) Q E s := by
  have hall : alikeAll d e = true := by simpa [alike] using hal
  have room := hu
  cases ra with
  | @tuple _ o vs n _ as₁ h1 h2 h3 h4 =>
    cases rb with
    | @tuple _ o' vs' n' _ bs₁ k1 k2 k3 k4 =>
      have n1 : vs.size = d.length := by simpa using ReadsAll.length _ _ _ h4
      have n2 : vs'.size = e.length := by simpa using ReadsAll.length _ _ _ k4
      obtain ⟨cls, dd, data, sl⟩ := o
      obtain ⟨cls', dd', data', sl'⟩ := o'
      simp only at h2 h3 k2 k3
      subst h2 h3 k2 k3
      rw [oneLt'_eq]
      simp only [if_true]
      refine wpAny_bind (wpAny_cRoomFor (SeqAt.room_here hu) ?_)
      refine wpAny_bind (wpAny_callSpecialIfBound?_slot (T := "tuple") (s := s) (show s.TypeIs (.ref x) "tuple" from ⟨_, h1, rfl⟩) PySem.F.slot_tuple_lt ?_)
      rw [dataLt_tuple, ← firstLt_toks d e hall, ← n1, ← n2] at h
      refine call_meets PySem.F.slot_tuple_lt ⟨_, h1, rfl⟩ PySem.F.entry_tuple_lt (PySem.F.args_tuple_lt_2 _ _) (PySem.SeqAt.tuple_ltAt x y vs vs' n n' dd dd' sl sl' (pairEq d e) (fun j => dataLt (d.getD j .none) (e.getD j .none))) ⟨h1, k1, fun j j1 j2 => ?_, fun j j1 j2 hj => ?_, ?_⟩
      · have := eqAt_alikeAll d e A.in1 s vs.toList vs'.toList _ _ h4 k4 hall (SeqAt.room_in hu) j (by simpa using j1) (by simpa using j2)
        simpa using this
      · have := rcLt_alikeAll d e A.in1 s vs.toList vs'.toList _ _ h4 k4 hall (SeqAt.room_in hu) j (by simpa using j1) (by simpa using j2) hj
        simpa using this
      · exact wpAny_truthy_bool h
/-- the kind that list.sort finds -/
theorem kind_tups {vs : List Value} {ds : List PyData} (e : EachIs (fun v d => ∃ as, Reads s.heap v d as) vs ds) (ht : ∀ d, d ∈ ds → ∃ xs, d = .tuple xs) (hno : ∃ d, d ∈ ds ∧ hasItem d = false) :
    ∃ k : SortKind, (k = oneType' ∨ k = general') ∧ ∀ (M : Model) (E : Value → Shared → Prop) (Q : SortKind → Shared → Prop), Q k s → wpAny M A (keyKind' vs.toArray) Q E s := by
  cases ds with
  | nil => obtain ⟨d, hd, _⟩ := hno; cases hd
  | cons d₀ ds =>
    have hall : ∀ fs : List (Option Value), fs.map (·.isSome) = (d₀ :: ds).map hasItem → (fs.toArray.all fun x => x.isSome) = false := by
      intro fs hfs
      obtain ⟨d, hd, hf⟩ := hno
      have : false ∈ fs.map (·.isSome) := by rw [hfs]; exact List.mem_map.mpr ⟨d, hd, hf⟩
      obtain ⟨x, hx, hx2⟩ := List.mem_map.mp this
      rw [Bool.eq_false_iff]
      intro hA
      simp only [List.all_toArray, List.all_eq_true] at hA
      rw [hA x hx] at hx2
      cases hx2
    cases hd0 : hasItem d₀ with
    | true =>
      refine ⟨general', .inr rfl, fun M E Q q => ?_⟩
      rw [kat_kind_eq, List.mapM_toArray, map_eq_pure_bind]
      refine wpAny_bind (wpAny_bind (firsts_tups e ht fun fs hfs => wpAny_pure ?_))
      rw [if_neg (by rw [hall fs hfs]; decide)]
      cases fs with
      | nil => cases hfs
      | cons f fs =>
        rw [List.map_cons, List.map_cons, hd0] at hfs
        have hf : f.isSome = true := (List.cons.inj hfs).1
        have e0 : ((f :: fs).toArray[0]?.bind id).isSome = true := by simpa using hf
        rw [if_pos e0]
        exact wpAny_pure q
    | false =>
      refine ⟨oneType', .inl rfl, fun M E Q q => ?_⟩
      rw [kat_kind_eq, List.mapM_toArray, map_eq_pure_bind]
      refine wpAny_bind (wpAny_bind (firsts_tups e ht fun fs hfs => wpAny_pure ?_))
      rw [if_neg (by rw [hall fs hfs]; decide)]
      cases fs with
      | nil => cases hfs
      | cons f fs =>
        rw [List.map_cons, List.map_cons, hd0] at hfs
        have hf : f.isSome = false := (List.cons.inj hfs).1
        have e0 : ((f :: fs).toArray[0]?.bind id).isSome = false := by simpa using hf
        rw [if_neg (by rw [e0]; decide)]
        rw [oneTypeOnly'_eq, List.mapM_toArray, map_eq_pure_bind]
        refine wpAny_bind (wpAny_bind (wpAny_bind (kas_mapM (r := Value.type "tuple") _ (fun v hv Q' hq => ?_) (wpAny_pure ?_))))
        · obtain ⟨d, hd, as, r⟩ := e.left v hv
          obtain ⟨xs, rfl⟩ := ht d hd
          exact (looks_reads r).here hq
        · cases e with
          | cons h t =>
            rename_i v vs
            have hall2 : ((List.map (fun _ => Value.type "tuple") (v :: vs)).toArray.all fun x => x == Value.type "tuple") = true := by
              simp only [List.all_toArray, List.all_map, List.all_eq_true]
              intro _ _
              rfl
            have h0 : (List.map (fun _ => Value.type "tuple") (v :: vs)).toArray[0]? = some (Value.type "tuple") := by simp
            rw [h0]
            simp only [hall2, if_true]
            exact wpAny_pure (wpAny_pure q)
theorem keyLt_general (x y : Value) : keyLt' general' x y = oneLt' false x y := rfl
/-- values that read as tuples that are alike can be sorted -/
theorem sortsAt_tups {vs : List Value} {ds : List PyData} (e : EachIs (fun v d => ∃ as, Reads s.heap v d as) vs ds) (hal : AllAlike ds) (ht : ∀ d, d ∈ ds → ∃ xs, d = .tuple xs) (hu : ∀ d, d ∈ ds → A.units + d.depth < cLine) : SortsAt prog w A s (dataKind s.heap ds) vs := by
  by_cases hno : ∃ d, d ∈ ds ∧ hasItem d = false
  · obtain ⟨k, hk, hkd⟩ := kind_tups (A := A) e ht hno
    refine ⟨fun v hv => ?_, k, ?_, fun _ E Q q => hkd _ E Q q⟩
    · obtain ⟨d, hd, as, r⟩ := e.left v hv
      exact ⟨_, dataKind_some hal hd r⟩
    · intro E x y a b Q ha hb hq
      obtain ⟨d, as, hd, ra, rfl⟩ := dataKind_inv ha
      obtain ⟨d', as', hd', rb, rfl⟩ := dataKind_inv hb
      have hr : A.units + min d.depth d'.depth < cLine := Nat.lt_of_le_of_lt (Nat.add_le_add_left (Nat.min_le_left _ _) _) (hu d hd)
      obtain ⟨xs, rfl⟩ := ht d hd
      obtain ⟨ys, rfl⟩ := ht d' hd'
      rcases hk with rfl | rfl
      · rw [keyLt'_oneType]
        have hx : ∃ x', x = .ref x' := by cases ra; exact ⟨_, rfl⟩
        have hy : ∃ y', y = .ref y' := by cases rb; exact ⟨_, rfl⟩
        obtain ⟨x', rfl⟩ := hx
        obtain ⟨y', rfl⟩ := hy
        exact oneLt_tups ra rb (hal _ hd _ hd') hr hq
      · rw [keyLt_general]
        refine kat_one _ _ (lt_data ra rb (hal _ hd _ hd') (by simp) hr ?_)
        exact hq
  · refine SortsAt.data e hal (.inl fun d hd => ?_) hu
    obtain ⟨xs, rfl⟩ := ht d hd
    cases xs with
    | nil => exact absurd ⟨_, hd, rfl⟩ hno
    | cons x r => exact ⟨x, r, rfl⟩
end
end DL

/-! sorted(x), x a list, a tuple or a dict -/
namespace DL
open PySem PySem.Spec PyProof.Rows L2
section
open PySem.W PySem.Calls PySem.SeqAt
variable {prog : Program} {w : World} {A : Around} {s : Shared}
theorem collect_tup {l : Addr} {vs : List Value} {E : Value → Shared → Prop} {Q : List Value → Shared → Prop} (hl : s.heap.IsTuple l vs.toArray)
    (h : Q vs { s with heap := (s.heap.push (seqObj "list" #[] 0)).update s.heap.objs.size (Obj.mapSeq (· ++ vs.toArray)) }) (hsz : vs.length ≤ sizeLine := by size_fits) :
    wpAny (model prog w) A (collect (.ref l)) Q E s := by
  obtain ⟨o, ho, hc, n, hd⟩ := id hl
  unfold collect
  refine wpAny_bind (wpAny_runValue (codeAny_builtin entry_proto_collect' ?_))
  show wpAny _ _ (do again (.builtin "list.__iadd__" ⟨[← newList [], .ref l], []⟩)) _ _ s
  refine wpAny_bind (wpAny_newList (wpAny_pure ⟨Code.quiet_builtin _ (by decide +kernel), codeAny_builtin entry_list_iadd' ?_⟩))
  show wpAny _ _ (Builtin.List.listExtendWith (.ref s.heap.objs.size) (.ref l) (.ref s.heap.objs.size)) _ _ { s with heap := s.heap.push (seqObj "list" #[] 0) }
  unfold Builtin.List.listExtendWith
  have ho' : (s.heap.push (seqObj "list" #[] 0)).get? l = some o := Heap.get?_push_of_some _ ho
  refine wpAny_bind (wpAny_typeOf (T := "tuple") ⟨o, ho', hc⟩ ?_)
  have ht : (Value.type "tuple" == Value.type "tuple") = true := by rfl
  rw [if_pos (by rw [ht]; simp)]
  refine wpAny_bind (listItems_at ho' hd ?_)
  refine wpAny_bind (listItems_at (xs := #[]) (n := 0) (Heap.get?_push_size _ rfl) rfl ?_)
  rw [if_neg (by simp)]
  refine wpAny_bind (listUpdate_at (xs := #[]) (n := 0) (Heap.get?_push_size _ rfl) rfl ?_ (Nat.zero_le _) (by show (#[] ++ vs.toArray).size ≤ sizeLine + 1; simp only [Array.size_append, List.size_toArray, List.length_nil]; omega))
  refine wpAny_pure ?_
  show wpAny (model prog w) A (do
      let o ← load s.heap.objs.size
      match o.data with
      | .seq xs _ => pure xs.toList
      | _ => unsupported "internal:collect") Q E { s with heap := (s.heap.push (seqObj "list" #[] 0)).update s.heap.objs.size (Obj.mapSeq (· ++ vs.toArray)) }
  refine wpAny_bind (wpAny_load (get?_update_seq (Heap.get?_push_size _ rfl) _) ?_)
  show wpAny _ _ (pure ((#[] : Array Value) ++ vs.toArray).toList) Q E _
  rw [show ((#[] : Array Value) ++ vs.toArray).toList = vs by simp]
  exact wpAny_pure h
/-- sorted(x) of what can be collected -/
theorem sorted_gen {β : Type} {bs : List β} {enc : β → PyData} {R : Value → β → Prop} {E : Value → Shared → Prop} {x : Value} {Q : Value → Shared → Prop}
    (hc : ∀ (E' : Value → Shared → Prop) (Q' : List Value → Shared → Prop), (∀ vs h1 tk, (∀ b o, s.heap.get? b = some o → h1.get? b = some o) → EachIs R vs bs → Q' vs { s with heap := h1, toks := tk }) → wpAny (model prog w) A.in1 (collect x) Q' E' s)
    (hr : ∀ v b, R v b → ∃ as, Reads s.heap v (enc b) as) (hal : AllAlike (bs.map enc))
    (hk : Sortable (bs.map enc) ∨ ∀ d, d ∈ bs.map enc → ∃ xs, d = .tuple xs) (hL : bs.length ≤ sizeLine) (hu : ∀ b, b ∈ bs → A.units + 2 + (enc b).depth < cLine)
    (h : ∀ out d (h1 h2 : Heap) tk, (∀ b o, s.heap.get? b = some o → h1.get? b = some o) → (∀ b o, h1.get? b = some o → h2.get? b = some o) → h1.objs.size ≤ d → (∃ c, h2.get? d = some (seqObj "list" (List.toArray out) c)) → EachIs R out (bs.mergeSort (dataLe false enc)) → Q (.ref d) { s with heap := h2, toks := tk }) :
    wpAny (model prog w) A (call (.builtin "sorted") [x]) Q E s := by
  refine Calls.call_function_entry kind_sorted plain_sorted entry_sorted (args_sorted1 _) ?_
  unfold Builtin.«sorted»
  refine wpAny_bind (m := checkCount "sorted" 1 1 _) (wpAny_pure ?_)
  refine wpAny_bind (hc _ _ fun vs h1 tk keep e => ?_)
  have hlv : vs.length = bs.length := e.length
  refine wpAny_bind (wpAny_newList ?_ (by rw [hlv]; exact hL))
  have hoL : (h1.push (seqObj "list" vs.toArray 0)).get? h1.objs.size = some (seqObj "list" vs.toArray 0) := Heap.get?_push_size _ rfl
  have old : ∀ b o, s.heap.get? b = some o → b ≠ h1.objs.size ∧ (h1.push (seqObj "list" vs.toArray 0)).get? b = some o := fun b o q => by
    have q1 := keep b o q
    exact ⟨Nat.ne_of_lt (Heap.lt_size q1), Heap.get?_push_of_some _ q1⟩
  show wpAny _ _ _ _ _ { s with heap := h1.push (seqObj "list" vs.toArray 0), toks := tk }
  have er : EachIs (fun v b => ∃ as, Reads (sortingHeap (h1.push (seqObj "list" vs.toArray 0)) h1.objs.size vs) v (enc b) as) vs bs := e.mono fun v b q => by
    obtain ⟨as, r⟩ := hr v b q
    exact ⟨as, PyProof.Rows.Reads.keeps (fun b o z => sortingHeap_old (old b o z).1 (old b o z).2) r⟩
  have S : SortsAt prog w A.in1.in1 { s with heap := sortingHeap (h1.push (seqObj "list" vs.toArray 0)) h1.objs.size vs, toks := tk } (dataKind (sortingHeap (h1.push (seqObj "list" vs.toArray 0)) h1.objs.size vs) (bs.map enc)) vs := by
    have e2 := each_map (R := fun v d => ∃ as, Reads (sortingHeap (h1.push (seqObj "list" vs.toArray 0)) h1.objs.size vs) v d as) enc er
    have hu2 : ∀ d, d ∈ bs.map enc → A.in1.in1.units + d.depth < cLine := bound_map hu
    rcases hk with hk | hk
    · exact SortsAt.data (s := { s with heap := sortingHeap (h1.push (seqObj "list" vs.toArray 0)) h1.objs.size vs, toks := tk }) e2 hal hk hu2
    · exact sortsAt_tups (s := { s with heap := sortingHeap (h1.push (seqObj "list" vs.toArray 0)) h1.objs.size vs, toks := tk }) e2 hal hk hu2
  refine wpAny_bind (wpAny_holding (wpAny_call_entry slot_list_sort ⟨_, hoL, rfl⟩ entry_list_sort (list_sort_vals (s := { s with heap := h1.push (seqObj "list" vs.toArray 0), toks := tk }) hoL S (by rw [hlv]; exact hL) ⟨_, rfl, ?_⟩) (args_list_sort _)))
  refine wpAny_pure ⟨_, rfl, ?_⟩
  refine h _ h1.objs.size h1 _ tk keep (fun b o q => ?_) (Nat.le_refl _) (PyProof.Rows.sortedHeap_at (vs := vs) (out := (List.toArray _)) hoL) (sortVals_data false e er hal)
  have q2 : (h1.push (seqObj "list" vs.toArray 0)).get? b = some o := Heap.get?_push_of_some _ q
  rw [PyProof.Rows.sortedHeap_old (Nat.ne_of_lt (Heap.lt_size q)) (Heap.lt_size q2)]
  exact q2
end
/-! ### data -/
def D.le (x y : D) : Bool := !D.lt y x
def sortD (xs : List D) : List D := xs.mergeSort D.le
/-- these can be sorted -/
structure SortOk (xs : List D) : Prop where
  len : xs.length ≤ sizeLine
  pl : ∀ x ∈ xs, x.pl 50 = true
  al : ∀ x ∈ xs, ∀ y ∈ xs, PySem.W.alike x.py y.py = true
  kd : (∀ x ∈ xs, ∃ ys, x = .tup ys) ∨ ∀ x ∈ xs, x ≠ .non ∧ (∀ ys, x ≠ .tup ys) ∧ ∀ ys, x ≠ .con ys
theorem SortOk.kind {xs : List D} (h : SortOk xs) : PySem.W.Sortable (xs.map D.py) ∨ ∀ d, d ∈ xs.map D.py → ∃ ys, d = .tuple ys := by
  rcases h.kd with k | k
  · refine .inr fun d hd => ?_
    obtain ⟨x, hx, rfl⟩ := List.mem_map.mp hd
    obtain ⟨ys, rfl⟩ := k x hx
    exact ⟨D.pys ys, by simp [D.py]⟩
  · refine .inl (.inr fun d hd => ?_)
    obtain ⟨x, hx, rfl⟩ := List.mem_map.mp hd
    have hp := h.pl x hx
    obtain ⟨k1, k2, k3⟩ := k x hx
    cases x with
    | non => exact absurd rfl k1
    | tup ys => exact absurd rfl (k2 ys)
    | obj _ => simp [D.pl] at hp
    | dct _ _ => simp [D.pl] at hp
    | err _ _ => simp [D.pl] at hp
    | exn _ _ _ => simp [D.pl] at hp
    | con ys => exact absurd rfl (k3 ys)
    | bl b => exact ⟨by simp [D.py], by simp [D.py]⟩
    | int b => exact ⟨by simp [D.py], by simp [D.py]⟩
    | str b => exact ⟨by simp [D.py], by simp [D.py]⟩
    | lst b => exact ⟨by simp [D.py], by simp [D.py]⟩
theorem SortOk.alike {xs : List D} (h : SortOk xs) : PySem.W.AllAlike (xs.map D.py) := by
  intro d hd d' hd'
  obtain ⟨x, hx, rfl⟩ := List.mem_map.mp hd
  obtain ⟨y, hy, rfl⟩ := List.mem_map.mp hd'
  exact h.al x hx y hy
/-- the value stands for the data -/
def IsD0 (K : PySem.W.Frag) (G : Hp) (v : Value) (d : D) : Prop := ∃ x : V, RelV x v ∧ Rep K G d x
theorem each_rep {K : PySem.W.Frag} {G : Hp} : ∀ {vs : List Value} {ds : List D}, PySem.W.EachIs (IsD0 K G) vs ds → ∃ xs : List V, Vals xs vs ∧ RepL K G ds xs
  | _, _, .nil => ⟨[], .nil, rfl⟩
  | _, _, .cons ⟨x, r, h⟩ t => by
    obtain ⟨xs, r2, h2⟩ := each_rep t
    exact ⟨x :: xs, .cons r r2, x, xs, rfl, h, h2⟩
theorem rep_each {K : PySem.W.Frag} {G : Hp} : ∀ {ds : List D} {xs : List V} {vs : List Value}, RepL K G ds xs → Vals xs vs → PySem.W.EachIs (IsD0 K G) vs ds
  | [], xs, vs, h, r => by
    have h : xs = [] := h
    subst h
    cases r
    exact .nil
  | d :: ds, xs, vs, ⟨x, xr, e, h1, h2⟩, r => by
    subst e
    cases r with
    | cons a b => exact .cons ⟨x, a, h1⟩ (rep_each h2 b)
section
variable {X : Cx} {W : WX}
/-- what can be collected from a -/
def CollOk (X : Cx) (pins : List (Addr × Obj)) (σ : L2.St) (H : Hp) (s : Shared) (a : Addr) (ds : List D) (G : Hp) : Prop :=
  Sub G H ∧ ∀ (E' : Value → Shared → Prop) (Q' : List Value → Shared → Prop), (∀ vs h1 tk, (∀ b o, s.heap.get? b = some o → h1.get? b = some o) → PySem.W.EachIs (IsD0 X.K G) vs ds → Q' vs { s with heap := h1, toks := tk }) → wpAny (model X.prog X.w) X.A.in1 (collect (.ref a)) Q' E' s
theorem isd_reads {pins : List (Addr × Obj)} {σ : L2.St} {H : Hp} {s : Shared} (I : Inv X pins σ H s) {G : Hp} (sg : Sub G H) {v : Value} {d : D} (hp : d.pl 50 = true) (h : IsD0 X.K G v d) : ∃ as, Reads s.heap v d.py as := by
  obtain ⟨x, r, h⟩ := h
  exact Dp.reads I d.py x v (Rep.dp d 50 x hp (h.mono sg)) r
theorem sort_rule {pins : List (Addr × Obj)} {σ : L2.St} {H : Hp} {s : Shared} {a : Addr} {ds : List D} {G : Hp} {Q : VK} (hu : X.A.units + 64 < cLine) (I : Inv X pins σ H s) (hc : CollOk X pins σ H s a ds G) (ok : SortOk ds)
    (q : ∀ p ys, H p = none → RepL X.K G (sortD ds) ys → Q (.ref p) (upd H p (.lst ys))) : wpAny (model X.prog X.w) X.A (call (.builtin "sorted") [.ref a]) (EP X pins σ Q) X.xe s := by
  obtain ⟨sg, hc⟩ := hc
  have key : ∀ v d, (IsD0 X.K G v d ∧ d ∈ ds) → ∃ as, Reads s.heap v d.py as := fun v d h => isd_reads I sg (ok.pl d h.2) h.1
  refine sorted_gen (R := fun v d => IsD0 X.K G v d ∧ d ∈ ds) (enc := D.py) (bs := ds) (fun E' Q' hq => hc E' Q' fun vs h1 tk k e => hq vs h1 tk k (PySem.W.each_mem e)) key ok.alike ok.kind ok.len (fun b hb => ?_) fun out d h1 h2 tk keep keep2 hd hat e => ?_
  · have := (py_can b 50 (ok.pl b hb)).2
    omega
  · obtain ⟨ys, r1, r2⟩ := each_rep (e.mono fun v d z => z.1)
    obtain ⟨c, hat⟩ := hat
    have hlen : ys.length ≤ sizeLine := by
      rw [r2.length, List.length_mergeSort]
      exact ok.len
    exact ⟨.ref d, upd H d (.lst ys), (I.kept (t' := tk) keep).laid (t' := tk) keep2 hd ⟨hlen, out, c, r1, hat⟩, rfl, q d ys ((I.kept (t' := tk) keep).hok.fresh hd) r2⟩
/-- lists, tuples -/
def SrcSeq (K : PySem.W.Frag) (H : Hp) (a : Addr) (ds : List D) (G : Hp) : Prop := Sub G H ∧ ∃ vs, (SqL K H a vs ∨ SqT K H a vs) ∧ RepL K G ds vs
theorem coll_seq {pins : List (Addr × Obj)} {σ : L2.St} {H : Hp} {s : Shared} {a : Addr} {ds : List D} {G : Hp} (I : Inv X pins σ H s) (h : SrcSeq X.K H a ds G) : CollOk X pins σ H s a ds G := by
  obtain ⟨sg, vs, h1, h2⟩ := h
  refine ⟨sg, fun E' Q' hq => ?_⟩
  rcases h1 with h1 | h1
  · obtain ⟨its, rv, p, hz⟩ := I.list h1
    refine collect_list p.isList (hq its _ _ (fun b o e => ?_) (rep_each h2 rv)) (by rw [← rv.length]; exact hz)
    rw [Heap.get?_update_ne _ _ _ _ (Nat.ne_of_lt (Heap.lt_size e))]
    exact Heap.get?_push_of_some _ e
  · obtain ⟨its, rv, p, hz⟩ := I.tuple h1
    refine collect_tup p (hq its _ _ (fun b o e => ?_) (rep_each h2 rv)) (by rw [← rv.length]; exact hz)
    rw [Heap.get?_update_ne _ _ _ _ (Nat.ne_of_lt (Heap.lt_size e))]
    exact Heap.get?_push_of_some _ e
/-- dicts of numbers and texts -/
theorem coll_dK {pins : List (Addr × Obj)} {σ : L2.St} {H : Hp} {s : Shared} {a : Addr} {kvs : List (Key × V)} {G : Hp} (hcalm : X.calm = true) (I : Inv X pins σ H s) (sg : Sub G H) (hd : Rd H a (.dK kvs)) : CollOk X pins σ H s a (kvs.map fun p => keyD p.1) G := by
  refine ⟨sg, fun E' Q' hq => ?_⟩
  obtain ⟨z, lo, vs, rel, dd⟩ := dk_rd I.hok hd
  obtain ⟨ep, hat⟩ := dd.dictAt
  have hl : vs.length = kvs.length := by
    have e := congrArg List.length rel.keys
    rw [List.length_map, List.length_map] at e
    exact e.symm
  refine PySem.W.kdu_collect (A := X.A.in1) (PySem.W.kdl_dict (knd := mixKind X.prog X.w) (kvs := vs) (ep := ep) lo) (I.ok.hd hcalm) hat (by rw [hl]; exact z) fun h' tk acc hk hacc => ?_
  refine hq _ _ _ hk ?_
  have hal : acc.toList.length = kvs.length := by rw [Array.length_toList, hacc.1, hl]
  have e1 : (kvs.map fun p => keyD p.1) = (kvs.map (·.1)).map keyD := by rw [List.map_map]; rfl
  rw [e1, rel.keys]
  refine rep_each (xs := (vs.map (·.1)).map kV) ?_ (vals_of_at (by rw [List.length_map, List.length_map, hal, hl]) fun j x w h1 h2 => ?_)
  · generalize vs.map (·.1) = ks
    induction ks with
    | nil => rfl
    | cons k ks ih => exact ⟨kV k, ks.map kV, rfl, by cases k <;> rfl, ih⟩
  · obtain ⟨k, y, hky, hi⟩ := hacc.2 j w (by rw [← Array.getElem?_toList]; exact h2)
    rw [List.getElem?_map, List.getElem?_map, hky] at h1
    cases h1
    exact keyIs_rel hi
/-- dicts of tuples -/
theorem coll_dT {pins : List (Addr × Obj)} {σ : L2.St} {H : Hp} {s : Shared} {a : Addr} {kvs : List (List Key × V)} (hcalm : X.calm = true) (I : Inv X pins σ H s) (hd : Rd H a (.dT kvs)) :
    ∃ bs : List Addr, (∀ b ∈ bs, ∃ vs, H b = some (.tup vs)) ∧ ∀ G, Sub G H → (∀ b ∈ bs, G b = H b) → CollOk X pins σ H s a (kvs.map fun p => keyT p.1) G := by
  obtain ⟨z, hs, ks, pr, o, es, ep, ho, hx, hdt, he, hn⟩ := (show ObjOk X.prog X.w H s.heap a (.dT kvs) from hd.ok I.hok)
  have l1 : es.size = ks.length := size_of_entries he
  have l2 : kvs.length = ks.length := Paired.length pr
  have ik := isKeys_of pr
  refine ⟨ks.map fun x => x.2.1, ?_, fun G sg hG => ⟨sg, fun E' Q' hq => ?_⟩⟩
  · intro b hb
    unfold IsKeys at ik
    have : ∀ {l : List (List Key × V)} {m : List Addr}, Paired (fun p b => H b = some (.tup (p.1.map kV))) l m → ∀ b ∈ m, ∃ vs, H b = some (.tup vs) := by
      intro l m q
      induction q with
      | nil => intro b hb; cases hb
      | cons h t ih =>
        intro b hb
        rcases List.mem_cons.mp hb with e | hb
        · subst e; exact ⟨_, h⟩
        · exact ih b hb
    exact this ik b hb
  · refine PySem.W.kdu_collect (A := X.A.in1) (kdl_raw hs hx hdt) (I.ok.hd hcalm) ho (by omega) fun h' tk acc' kp it => ?_
    refine hq _ _ _ kp ?_
    have ea : acc'.toList = ks.map fun x => Value.ref x.2.1 := by
      have hl : acc'.toList.length = ks.length := by rw [Array.length_toList, it.1]; exact l1
      apply List.ext_getElem?
      intro j
      rw [List.getElem?_map]
      cases hj : acc'.toList[j]? with
      | none =>
        have h1 := List.getElem?_eq_none_iff.mp hj
        rw [List.getElem?_eq_none (by omega)]
        all_goals rfl
      | some v =>
        obtain ⟨en, hen, hv⟩ := it.2 j v (by rw [← Array.getElem?_toList]; exact hj)
        have qe := entry_at he j
        rw [hen] at qe
        cases hb : ks[j]? with
        | none =>
          rw [hb] at qe
          exact nomatch (show some en = none from qe)
        | some b =>
          rw [hb] at qe
          have e2 : en = entryOfKey (tupleKind (mixKind X.prog X.w)) b := Option.some.inj qe
          rw [hv, e2]
          rfl
    rw [ea]
    have gen : ∀ {l : List (List Key × V)} {m : List (List Key × Addr × Value)}, Paired (fun p b => H b = some (.tup (p.1.map kV))) l (m.map fun x => x.2.1) → (∀ x ∈ m, G x.2.1 = H x.2.1) → RepL X.K G (l.map fun p => keyT p.1) (m.map fun x => V.ref x.2.1) := by
      intro l
      induction l with
      | nil => intro m q _; cases m with
        | nil => rfl
        | cons x m => cases q
      | cons p l ih =>
        intro m q hm
        cases m with
        | nil => cases q
        | cons x m =>
          cases q with
          | cons h t =>
            refine ⟨V.ref x.2.1, m.map fun x => V.ref x.2.1, rfl, ⟨x.2.1, p.1.map kV, rfl, ?_, ?_⟩, ih t fun y hy => hm y (List.mem_cons_of_mem _ hy)⟩
            · rw [hm x List.mem_cons_self]; exact h
            · generalize p.1 = ks'
              induction ks' with
              | nil => rfl
              | cons k ks' ih => exact ⟨kV k, ks'.map kV, rfl, by cases k <;> rfl, ih⟩
    refine rep_each (gen ik fun x hx => hG _ (List.mem_map.mpr ⟨x, hx, rfl⟩)) ?_
    have e3 : (ks.map fun x => V.ref x.2.1) = (ks.map fun x => x.2.1).map V.ref := by rw [List.map_map]; rfl
    have e4 : (ks.map fun x => Value.ref x.2.1) = (ks.map fun x => x.2.1).map Value.ref := by rw [List.map_map]; rfl
    rw [e3, e4]
    exact vals_refs _
/-- what a walk over the data yields -/
def D.items : D → Option (List D)
  | .lst xs => some xs
  | .tup xs => some xs
  | .dct _ kvs => some (kvs.map (·.1))
  | _ => none
open Classical in
noncomputable def dSorted : D → Res D := fun d => match d.items with
  | some xs => if SortOk xs then .ok (.lst (sortD xs)) else .bad
  | none => .bad
def rSorted0 (X : Cx) : List V → Hp → VK → Prop := fun xs H Q => ∃ (a : Addr) (ds : List D), xs = [V.ref a] ∧ SortOk ds ∧
  ((∃ G, SrcSeq X.K H a ds G ∧ ∀ p ys, H p = none → RepL X.K G (sortD ds) ys → Q (.ref p) (upd H p (.lst ys))) ∨
   (∃ kvs, Rd H a (.dK kvs) ∧ ds = kvs.map (fun p => keyD p.1) ∧ ∃ G, Sub G H ∧ ∀ p ys, H p = none → RepL X.K G (sortD ds) ys → Q (.ref p) (upd H p (.lst ys))) ∨
   (∃ kvs, Rd H a (.dT kvs) ∧ ds = kvs.map (fun p => keyT p.1) ∧ ∀ (bs : List Addr) G, (∀ b ∈ bs, ∃ vs, H b = some (.tup vs)) → Sub G H → (∀ b o, G b = some o → b ∈ bs) → ∀ p ys, H p = none → RepL X.K G (sortD ds) ys → Q (.ref p) (upd H p (.lst ys))))
open Classical in
theorem cr_sorted0 (hcalm : X.calm = true) (hu : X.A.units + 64 < cLine) : CallR X (.builtin "sorted") (rSorted0 X) := by
  intro pins s σ H xs us Q I r h
  obtain ⟨a, ds, rfl, ok, h⟩ := h
  obtain ⟨u, rfl, ru⟩ := vals1 r
  obtain rfl : u = Value.ref a := ru
  rcases h with ⟨G, h1, q⟩ | ⟨kvs, h1, rfl, G, sg, q⟩ | ⟨kvs, h1, rfl, q⟩
  · exact sort_rule hu I (coll_seq I h1) ok q
  · exact sort_rule hu I (coll_dK hcalm I sg h1) ok q
  · obtain ⟨bs, b1, b2⟩ := coll_dT hcalm I h1
    have hG : Sub (fun b => if b ∈ bs then H b else none) H := fun b o e => by
      dsimp only at e
      split at e
      · exact e
      · cases e
    refine sort_rule hu I (b2 (fun b => if b ∈ bs then H b else none) hG fun b hb => if_pos hb) ok (q bs _ b1 hG fun b o e => ?_)
    split at e
    · assumption
    · cases e
open Classical in
theorem c1_sorted (hcalm : X.calm = true) (hu : X.A.units + 64 < cLine) : Call1F X W (.builtin "sorted") dSorted := by
  refine ⟨_, cr_sorted0 hcalm hu, fun σ H G x dx Q sg rx p => ?_⟩
  unfold dSorted at p
  cases hi : dx.items with
  | none => rw [hi] at p; exact p.elim
  | some ds =>
    rw [hi] at p
    dsimp only at p
    by_cases ok : SortOk ds
    · rw [if_pos ok] at p
      have fin : ∀ G2, Ext H G H G2 → ∀ q ys, H q = none → RepL X.K G2 (sortD ds) ys → Q (.ref q) (upd H q (.lst ys)) := fun G2 x2 q ys hq r =>
        p (upd H q (.lst ys)) G2 ⟨x2.hh.trans (Sub.upd hq), x2.gg, x2.gh.trans (Sub.upd hq), x2.new⟩ q hq (x2.gh.free hq) ⟨ys, upd_same, r⟩
      cases dx with
      | lst xs =>
        cases hi
        obtain ⟨a, vs, rfl, s, r⟩ := rx
        exact ⟨a, _, rfl, ok, .inl ⟨G, ⟨sg, vs, .inl s, r⟩, fin G (Ext.refl sg)⟩⟩
      | tup xs =>
        cases hi
        obtain ⟨a, vs, rfl, s, r⟩ := (show Rep X.K G (.tup _) x from rx)
        exact ⟨a, _, rfl, ok, .inl ⟨G, ⟨sg, vs, .inr (sg.pt s), r⟩, fin G (Ext.refl sg)⟩⟩
      | dct t kvs =>
        cases hi
        obtain ⟨a, rfl, h⟩ := rx
        rcases h with ⟨t0, ps, s, hkeys, rv⟩ | ⟨t0, ps, s, hkeys, rv⟩
        · exact ⟨a, _, rfl, ok, .inr (.inl ⟨ps, s, hkeys, G, sg, fin G (Ext.refl sg)⟩)⟩
        · refine ⟨a, _, rfl, ok, .inr (.inr ⟨ps, s, hkeys, fun bs G1 hb sg1 hG1 q ys hq r => ?_⟩)⟩
          have s2 : Sub G (fun b => if b ∈ bs then H b else G b) := fun b o e => by
            dsimp only
            by_cases hbb : b ∈ bs
            · rw [if_pos hbb]; exact sg _ _ e
            · rw [if_neg hbb]; exact e
          have s3 : Sub G1 (fun b => if b ∈ bs then H b else G b) := fun b o e => by
            dsimp only
            rw [if_pos (hG1 b o e)]; exact sg1 _ _ e
          have s4 : Sub (fun b => if b ∈ bs then H b else G b) H := fun b o e => by
            dsimp only at e
            by_cases hbb : b ∈ bs
            · rw [if_pos hbb] at e; exact e
            · rw [if_neg hbb] at e; exact sg _ _ e
          refine fin _ ⟨Sub.refl H, s2, s4, fun b e => ?_⟩ q ys hq (r.mono s3)
          by_cases hbb : b ∈ bs
          · exact .inr (.inr (hb b hbb))
          · rw [if_neg hbb] at e; exact .inl e
      | _ => cases hi
    · rw [if_neg ok] at p; exact p.elim
end
end DL

/-! rules that look at the data: index, in, is, slices with a step, methods -/
namespace DL
open PySem PySem.Spec PyProof.Rows L2
open PySem.Builtin.Int (intBits)
section
variable {X : Cx} {W : WX} {A : Nat → Prop} {a b c ex : Expr} {pos p p1 p2 apos cpos : Pos}
/-- either of two readings, as the data say -/
theorem de_pick {f f1 f2 : DL.Env → Res D} (h1 : DE X W A ex f1) (h2 : DE X W A ex f2) (hf : ∀ e, f e = f1 e ∨ f e = f2 e ∨ f e = .bad) : DE X W A ex f :=
  ⟨fun pins s σ H Q I ⟨e, G, E, q⟩ => by
    rcases hf e with z | z | z
    · rw [z] at q; exact h1.run pins s σ H Q I ⟨e, G, E, q⟩
    · rw [z] at q; exact h2.run pins s σ H Q I ⟨e, G, E, q⟩
    · rw [z] at q; exact q.elim⟩
theorem dt_pick {f f1 f2 : DL.Env → Res Bool} (h1 : DT X W A ex f1) (h2 : DT X W A ex f2) (hf : ∀ e, f e = f1 e ∨ f e = f2 e ∨ f e = .bad) : DT X W A ex f :=
  ⟨fun pins s σ H Q I ⟨e, G, E, q⟩ => by
    rcases hf e with z | z | z
    · rw [z] at q; exact h1.run pins s σ H Q I ⟨e, G, E, q⟩
    · rw [z] at q; exact h2.run pins s σ H Q I ⟨e, G, E, q⟩
    · rw [z] at q; exact q.elim⟩
theorem eOp_pick {g g1 g2 : D → D → Res D} {fa fb : DL.Env → Res D} (h : ∀ x y, g x y = g1 x y ∨ g x y = g2 x y ∨ g x y = .bad) (e : DL.Env) : eOp g fa fb e = eOp g1 fa fb e ∨ eOp g fa fb e = eOp g2 fa fb e ∨ eOp g fa fb e = .bad := by
  unfold eOp
  cases ha : fa e with
  | ok x =>
    cases hb : fb e with
    | ok y => exact h x y
    | exc _ _ => exact .inl rfl
    | bad => exact .inl rfl
  | exc _ _ => exact .inl rfl
  | bad => exact .inl rfl
theorem bTest_pick {g g1 g2 : D → D → Res D} {fa fb : DL.Env → Res D} (h : ∀ x y, g x y = g1 x y ∨ g x y = g2 x y ∨ g x y = .bad) (e : DL.Env) : bTest g fa fb e = bTest g1 fa fb e ∨ bTest g fa fb e = bTest g2 fa fb e ∨ bTest g fa fb e = .bad := by
  unfold bTest
  cases ha : fa e with
  | ok x =>
    cases hb : fb e with
    | ok y =>
      rcases h x y with z | z | z
      · exact .inl (by simp only [Res.bind_ok, z])
      · exact .inr (.inl (by simp only [Res.bind_ok, z]))
      · exact .inr (.inr (by simp only [Res.bind_ok, z, Res.bind_bad]))
    | exc _ _ => exact .inl rfl
    | bad => exact .inl rfl
  | exc _ _ => exact .inl rfl
  | bad => exact .inl rfl
/-! ### x[k] of any kind -/
noncomputable def dIxA (x y : D) : Res D := match x with
  | .dct t kvs => dAt (.dct t kvs) y
  | x => dIx x y
theorem de_ixA {fa fb : DL.Env → Res D} (hu : X.A.units + 1 < cLine) (ha : DR X W A a fa) (hb : DE X W A b fb) (hs : NoSl b) (hs2 : PlainIx b) : DE X W A (.Subscript a b pos) (eOp dIxA fa fb) :=
  de_pick (de_dix hu ha hb hs) (de_ix ha (dr hb) hs2) (eOp_pick fun x y => by cases x <;> first | exact .inl rfl | exact .inr (.inl rfl))
/-! ### is -/
/-! ### in, of lists, tuples and texts -/
def D.has (xs : List D) (k : D) : Bool := xs.any fun z => D.beq z k
def strIn (k s : Str) : Bool := !(Builtin.Str.occurrences s k 0 s.length 1).isEmpty
def dInS (no : Bool) : D → D → Res D := fun k c => match c with
  | .lst xs => if k.pl 50 = true ∧ D.pls xs 50 = true then .ok (.bl (D.has xs k != no)) else .bad
  | .tup xs => if k.pl 50 = true ∧ D.pls xs 50 = true then .ok (.bl (D.has xs k != no)) else .bad
  | .con xs => if k.pl 50 = true ∧ D.pls xs 50 = true then .ok (.bl (D.has xs k != no)) else .bad
  | .str s => match k with
    | .str k => .ok (.bl (strIn k s != no))
    | _ => .bad
  | _ => .bad
def rInT (K : PySem.W.Frag) (no : Bool) : R2 := fun x y H Q => ∃ d ds, Dp K H x d ∧ Dp K H y (.tuple ds) ∧ SeqAt.shaped d = true ∧ SeqAt.shaped (.tuple ds) = true ∧ Q (.bl ((ds.any fun z => PyData.eqv z d) != no)) H
theorem op_inT (hu : X.A.units + 65 < cLine) : OpR X (compareOp .In) (rInT X.K false) := by
  intro pins s σ H x y v u Q I rx ry h
  obtain ⟨d, ds, hd, he, sd, se, q⟩ := h
  obtain ⟨as, r1⟩ := Dp.reads I d x v hd rx
  obtain ⟨bs, r2⟩ := Dp.reads I (.tuple ds) y u he ry
  rw [Bool.bne_false] at q
  exact SeqAt.in_tuple_reads r2 r1 (SeqAt.canLay_of_shaped se) (SeqAt.canLay_of_shaped sd) (room_in_shaped sd hu) ⟨.bl _, H, I, rfl, q⟩
theorem op_notInT (hu : X.A.units + 65 < cLine) : OpR X (compareOp .NotIn) (rInT X.K true) := by
  intro pins s σ H x y v u Q I rx ry h
  obtain ⟨d, ds, hd, he, sd, se, q⟩ := h
  obtain ⟨as, r1⟩ := Dp.reads I d x v hd rx
  obtain ⟨bs, r2⟩ := Dp.reads I (.tuple ds) y u he ry
  rw [Bool.bne_true] at q
  exact SeqAt.notIn_tuple_reads r2 r1 (SeqAt.canLay_of_shaped se) (SeqAt.canLay_of_shaped sd) (room_in_shaped sd hu) ⟨.bl _, H, I, rfl, q⟩
theorem any_pys (k : D) : ∀ xs : List D, ((D.pys xs).any fun z => PyData.eqv z k.py) = D.has xs k
  | [] => rfl
  | x :: xs => by
    unfold D.has
    rw [D.pys, List.any_cons, List.any_cons, any_pys k xs]
    rfl
theorem shaped_pyL {xs : List D} (h : D.pls xs 50 = true) : SeqAt.shaped (.list (D.pys xs)) = true := by
  have := shaped_py (d := .lst xs) (n := 51) (by simpa [D.pl] using h) (by decide)
  simpa [D.py] using this
theorem shaped_pyT {xs : List D} (h : D.pls xs 50 = true) : SeqAt.shaped (.tuple (D.pys xs)) = true := by
  have := shaped_py (d := .tup xs) (n := 51) (by simpa [D.pl] using h) (by decide)
  simpa [D.py] using this
theorem od_inS_gen {op : CmpOp} (no : Bool) (o1 : OpR X (compareOp op) fun x y H Q => ∃ d ds, Dp X.K H x d ∧ Dp X.K H y (.list ds) ∧ SeqAt.shaped d = true ∧ SeqAt.shaped (.list ds) = true ∧ Q (.bl ((ds.any fun z => PyData.eqv z d) != no)) H)
    (o2 : OpR X (compareOp op) (rInT X.K no)) (o3 : OpR X (compareOp op) fun x y H Q => ∃ i j, x = .str i ∧ y = .str j ∧ Q (.bl (strIn i j != no)) H) : OpD X W (compareOp op) (dInS no) := by
  refine ⟨_, OpR.or o1 (OpR.or o2 o3), fun σ H G x y dk dc Q sg rx ry p => ?_⟩
  cases dc with
  | lst xs =>
    dsimp only [dInS] at p
    by_cases hc : dk.pl 50 = true ∧ D.pls xs 50 = true
    · rw [if_pos hc] at p
      refine .inl ⟨dk.py, D.pys xs, Rep.dp dk 50 x hc.1 (rx.all sg (pl_nd hc.1)), ?_, shaped_py hc.1 (by decide), shaped_pyL hc.2, ?_⟩
      · obtain ⟨a, vs, rfl, s, r⟩ := ry
        exact .lst s (RepL.dp xs 50 vs hc.2 (r.mono sg))
      · rw [any_pys]; exact p.val sg rfl
    · rw [if_neg hc] at p; exact p.elim
  | tup xs =>
    dsimp only [dInS] at p
    by_cases hc : dk.pl 50 = true ∧ D.pls xs 50 = true
    · rw [if_pos hc] at p
      refine .inr (.inl ⟨dk.py, D.pys xs, Rep.dp dk 50 x hc.1 (rx.all sg (pl_nd hc.1)), ?_, shaped_py hc.1 (by decide), shaped_pyT hc.2, ?_⟩)
      · obtain ⟨a, vs, rfl, s, r⟩ := (show Rep X.K G (.tup xs) y from ry)
        exact .tup (sg.pt s) (RepL.dp xs 50 vs hc.2 (r.mono sg))
      · rw [any_pys]; exact p.val sg rfl
    · rw [if_neg hc] at p; exact p.elim
  | con xs =>
    dsimp only [dInS] at p
    by_cases hc : dk.pl 50 = true ∧ D.pls xs 50 = true
    · rw [if_pos hc] at p
      refine .inr (.inl ⟨dk.py, D.pys xs, Rep.dp dk 50 x hc.1 (rx.all sg (pl_nd hc.1)), ?_, shaped_py hc.1 (by decide), shaped_pyT hc.2, ?_⟩)
      · obtain ⟨a, vs, rfl, s, r⟩ := (show Rep X.K G (.con xs) y from ry)
        exact .tup (sg.sqt s.sqt) (RepL.dp xs 50 vs hc.2 (r.mono sg))
      · rw [any_pys]; exact p.val sg rfl
    · rw [if_neg hc] at p; exact p.elim
  | str s =>
    cases dk with
    | str k => exact .inr (.inr ⟨k, s, rx, ry, PostG.val (d := .bl (strIn k s != no)) p sg rfl⟩)
    | _ => exact (show False from p).elim
  | _ => exact (show False from p).elim
theorem od_inS (hu : X.A.units + 65 < cLine) : OpD X W (compareOp .In) (dInS false) :=
  od_inS_gen false (by
    have h := op_inD (X := X) hu
    unfold rInD at h
    simpa only [Bool.bne_false] using h) (op_inT hu) (by
    have h := op_in_str (X := X)
    unfold strIn
    simpa only [Bool.bne_false] using h)
theorem od_notInS (hu : X.A.units + 65 < cLine) : OpD X W (compareOp .NotIn) (dInS true) :=
  od_inS_gen true (by
    have h := op_notInD (X := X) hu
    unfold rNotInD at h
    simpa only [Bool.bne_true] using h) (op_notInT hu) (by
    have h := op_notin_str (X := X)
    unfold strIn
    simpa only [Bool.bne_true] using h)
noncomputable def dInA (no : Bool) (k c : D) : Res D := match c with
  | .dct t kvs => dIn no k (.dct t kvs)
  | c => dInS no k c
theorem inA_pick (no : Bool) (x y : D) : dInA no x y = dIn no x y ∨ dInA no x y = dInS no x y ∨ dInA no x y = .bad := by
  cases y <;> first | exact .inl rfl | exact .inr (.inl rfl)
theorem de_inA {fa fb : DL.Env → Res D} (hu : X.A.units + 65 < cLine) (ha : DE X W A a fa) (hb : DR X W A b fb) (hm : behindInMarks .In b = false := by rfl) : DE X W A (.Compare a [.In] [b] pos) (eOp (dInA false) fa fb) :=
  de_pick (de_din (by omega) ha hb hm) (de_cmp (od_inS hu) (dr ha) hb hm) (eOp_pick (inA_pick false))
theorem dt_notInA {fa fb : DL.Env → Res D} (hu : X.A.units + 65 < cLine) (ha : DE X W A a fa) (hb : DR X W A b fb) (hm : behindInMarks .NotIn b = false := by rfl) : DT X W A (.Compare a [.NotIn] [b] pos) (bTest (dInA true) fa fb) :=
  dt_pick (dt_dnotin (by omega) ha hb hm) (dt_cmp (od_notInS hu) (dr ha) hb hm) (bTest_pick (inA_pick true))
theorem _root_.L2.Room.hu65 {k : Nat} {A : Around} (h : Room k A) : A.units + 65 < cLine := by have := h.un; omega
end
end DL

/-! methods, lists made, slices with a step -/
namespace DL
open PySem PySem.Spec PyProof.Rows L2
open PySem.Builtin.Int (intBits)
section
variable {X : Cx} {W : WX} {A : Nat → Prop} {a b c ex o e : Expr} {es : List Expr} {pos p p1 p2 p3 apos cpos : Pos} {T id : String} {name : Str}
/-! ### methods of a value that is read -/
/-- l.index(k) -/
def dIndex : D → List D → Res D := fun l ks => match l, ks with
  | .lst xs, [k] => if k.pl 50 = true ∧ D.pls xs 50 = true then (match xs.findIdx? fun z => D.beq z k with
    | some j => .ok (.int (j : Nat))
    | none => .bad) else .bad
  | _, _ => .bad
/-! ### l.remove(k), l.insert(i, k) -/
def gRemove : List D → List D → Option (List D) := fun xs ds => match ds with
  | [k] => if k.pl 50 = true ∧ D.pls xs 50 = true then (match xs.findIdx? fun z => D.beq z k with
    | some j => some (xs.eraseIdx j)
    | none => none) else none
  | _ => none
mutual
theorem py_plain : ∀ (d : D) (n : Nat), d.pl n = true → d.py.plain = true
  | .non, n, _ => by simp [D.py, PyData.plain]
  | .bl _, n, _ => by simp [D.py, PyData.plain]
  | .int _, n, _ => by simp [D.py, PyData.plain]
  | .str _, n, _ => by simp [D.py, PyData.plain]
  | .obj _, n, h => by simp [D.pl] at h
  | .err _ _, n, h => by simp [D.pl] at h
  | .exn _ _ _, n, h => by simp [D.pl] at h
  | .dct _ _, n, h => by simp [D.pl] at h
  | .con xs, 0, h => by simp [D.pl] at h
  | .con xs, n + 1, h => by
    simp only [D.py, PyData.plain]
    exact pys_plain xs n (by simpa [D.pl] using h)
  | .tup xs, 0, h => by simp [D.pl] at h
  | .lst xs, 0, h => by simp [D.pl] at h
  | .tup xs, n + 1, h => by
    simp only [D.py, PyData.plain]
    exact pys_plain xs n (by simpa [D.pl] using h)
  | .lst xs, n + 1, h => by
    simp only [D.py, PyData.plain]
    exact pys_plain xs n (by simpa [D.pl] using h)
theorem pys_plain : ∀ (ds : List D) (n : Nat), D.pls ds n = true → PyData.plainAll (D.pys ds) = true
  | [], n, _ => by simp [D.pys, PyData.plainAll]
  | d :: r, n, h => by
    have h' : d.pl n = true ∧ D.pls r n = true := by simpa [D.pls] using h
    simp only [D.pys, PyData.plainAll, py_plain d n h'.1, pys_plain r n h'.2, Bool.and_self]
end
def rRemD (K : PySem.W.Frag) : V → List V → Hp → VK → Prop := fun x xs H Q => ∃ (l : Addr) (vs : List V) (y : V) (d : PyData) (ds : List PyData) (j : Nat), x = .ref l ∧ xs = [y] ∧ H l = some (.lst vs) ∧ DpAll K H vs ds ∧ Dp K H y d ∧
  PyData.plainAll ds = true ∧ d.plain = true ∧ d.depth ≤ 64 ∧ SeqAt.dataPlace ds d = some j ∧ Q .non (upd H l (.lst (vs.eraseIdx j)))
theorem vals_erase {xs : List V} {us : List Value} (h : Vals xs us) : ∀ j, Vals (xs.eraseIdx j) (us.eraseIdx j) := by
  induction h with
  | nil => intro j; exact .nil
  | cons a b ih =>
    intro j
    cases j with
    | zero => exact b
    | succ j => exact .cons a (ih j)
theorem mt_remD (hu : X.A.units + 66 < cLine) : MtM X "list.remove" (rRemD X.K) := by
  intro pins s σ H x xs v us Q I rx rv h
  obtain ⟨l, vs, y, d, ds, j, rfl, rfl, hH, hd, hy, p1, p2, p3, hp, q⟩ := h
  cases rx
  obtain ⟨u, rfl, ru⟩ := rv.one
  obtain ⟨z, its, n, r, hl, e⟩ := I.lstM hH
  obtain ⟨as, ra⟩ := Dp.readsAll I ds vs its hd r
  obtain ⟨bs, rb⟩ := Dp.reads I d y u hy ru
  have hil : s.heap.IsList l its.toArray := ⟨_, e, rfl, _, rfl⟩
  have hlen : its.length = ds.length := SeqAt.ReadsAll.length ds its as ra
  obtain ⟨hj1, _, _⟩ := List.findIdx?_eq_some_iff_getElem.mp hp
  refine SeqAt.remove_list_data (xs := ds) (d := d) (bs := bs) (as := as) hil (by simpa using ra) rb p1 p2 (by have := Nat.min_le_right (PyData.depthAll ds) d.depth; omega) hp (by rw [List.size_toArray]; omega) ?_
  refine ⟨.non, _, I.lset (its' := its.eraseIdx j) (t' := s.toks) hH e ?_ (vals_erase r j) ?_, rfl, q⟩
  · have hja : j < its.toArray.size := by rw [List.size_toArray]; omega
    apply Array.toList_inj.mp
    rw [Array.toList_eraseIdxIfInBounds]
    try simp
  · have := List.length_eraseIdx_le vs j
    omega
theorem repl_erase {K : PySem.W.Frag} {G : Hp} : ∀ {ds : List D} {vs : List V}, RepL K G ds vs → ∀ j, RepL K G (ds.eraseIdx j) (vs.eraseIdx j)
  | [], _, e, j => by rw [show _ = [] from e]; exact rfl
  | d :: ds, _, ⟨v, r, e, x, y⟩, 0 => by rw [e]; exact y
  | d :: ds, _, ⟨v, r, e, x, y⟩, j + 1 => by rw [e]; exact ⟨v, _, rfl, x, repl_erase y j⟩
theorem findIdx_pys (k : D) : ∀ xs : List D, SeqAt.dataPlace (D.pys xs) k.py = xs.findIdx? fun z => D.beq z k := by
  intro xs
  unfold SeqAt.dataPlace
  induction xs with
  | nil => rfl
  | cons x xs ih =>
    rw [D.pys, List.findIdx?_cons, List.findIdx?_cons, ih]
    rfl
theorem mut_remove (hu : X.A.units + 66 < cLine) : MutL X "list.remove" gRemove := by
  refine ⟨_, mt_remD hu, fun G H a xs vs ds ws xs' Q sg ha r1 r2 hg q => ?_⟩
  match ds, hg with
  | [k], hg =>
    dsimp only [gRemove] at hg
    by_cases hc : k.pl 50 = true ∧ D.pls xs 50 = true
    · rw [if_pos hc] at hg
      cases hf : xs.findIdx? (fun z => D.beq z k) with
      | none => rw [hf] at hg; cases hg
      | some j =>
        rw [hf] at hg
        cases hg
        obtain ⟨w, _, rfl, rw, e⟩ := r2
        have e : _ = [] := e
        subst e
        refine ⟨a, vs, w, k.py, D.pys xs, j, rfl, rfl, ha, RepL.dp xs 50 vs hc.2 (r1.mono sg), Rep.dp k 50 w hc.1 (rw.mono sg), pys_plain xs 50 hc.2, py_plain k 50 hc.1, ?_, by rw [findIdx_pys]; exact hf, q _ (repl_erase r1 j)⟩
        have := (py_can k 50 hc.1).2
        omega
    · rw [if_neg hc] at hg; cases hg
/-! ### list(range(..)) -/
/-! ### [x] * n -/
end
theorem _root_.L2.Room.hu66 {k : Nat} {A : Around} (h : Room k A) : A.units + 66 < cLine := by have := h.un; omega
end DL

/-! zip and enumerate over lists and tuples, mixed -/
namespace DL
open PySem PySem.Spec PyProof.Rows L2
open PySem.Builtin.Int (intBits)
/-! ### a side: a list (false) or a tuple (true) -/
/-! ### zip -/
theorem nn {m n : Nat} (h : @Ne Nat m n) : @Ne Addr m n := h
def seqOf : D → Option (List D)
  | .lst xs => some xs
  | .tup xs => some xs
  | .con xs => some xs
  | _ => none
section
variable {X : Cx} {W : WX} {A : Nat → Prop} {a b : Expr} {p pos tpos : Pos} {elts : List Expr} {kk : Nat}
end
end DL

/-! enumerate over a list or a tuple; slices with a step -/
namespace DL
open PySem PySem.Spec PyProof.Rows L2
open PySem.Builtin.Int (intBits)
section
variable {X : Cx} {W : WX} {A : Nat → Prop} {a b c ex : Expr} {lo hi : Option Expr} {p p2 p3 pos tpos : Pos} {elts : List Expr} {kk : Nat}
/-! ### xs[lo:hi:step] -/
end
end DL

/-! list(reversed(l)) -/
namespace DL
open PySem PySem.Spec PyProof.Rows L2 RT
open PySem.Builtin.Int (intBits)
section
variable {prog : Program} {w : World} {A : Around} {E : Value → Shared → Prop} {s : Shared}
end
section
variable {X : Cx}
end
end DL

/-! {k: v, ..} with keys that are written out -/
namespace DL
open PySem PySem.Spec PyProof.Rows L2
open PySem.Builtin.Int (intBits)
def eVals : List (Key × (DL.Env → Res D)) → DL.Env → Res (List D)
  | [] => aNil
  | p :: r => aCons p.2 (eVals r)
/-- the pairs of keys and values -/
def zipK : List Key → List V → List (Key × V)
  | k :: ks, v :: vs => (k, v) :: zipK ks vs
  | _, _ => []
def kzipD : List Key → List D → List (D × D)
  | k :: ks, d :: ds => (keyD k, d) :: kzipD ks ds
  | _, _ => []
def eDisp (l : List (Key × (DL.Env → Res D))) : DL.Env → Res D := fun e => (eVals l e).bind fun ds => .ok (.dct false (kzipD (l.map (·.1)) ds))
section
variable {K : PySem.W.Frag} {mg : Str → Option Value} {W : WX} {A : Nat → Prop}
abbrev dispT (K : PySem.W.Frag) (mg : Str → Option Value) (W : WX) (A : Nat → Prop) (p : Key × (DL.Env → Res D)) : TE × TE := (tC (kV p.1), tD K mg W A p.2)
theorem tPairs_of : ∀ (l : List (Key × (DL.Env → Res D))) (e : DL.Env) (σ : L2.St) (H G : Hp) (Q : List (V × V) → Hp → Prop), EnvG K A σ e H G → PostG K mg (fun c o H' => W c o σ H') H G (eVals l e) (fun ds H' G' => ∀ vs, RepL K G' ds vs → Q ((zipK (l.map (·.1)) vs).map fun kv => (kV kv.1, kv.2)) H') → tPairs (l.map (dispT K mg W A)) σ H Q
  | [], e, σ, H, G, Q, E, p => p.here E.sub [] rfl
  | q :: l, e, σ, H, G, Q, E, p => by
    show tD K mg W A q.2 σ H fun y H2 => tPairs (l.map (dispT K mg W A)) σ H2 fun ps H3 => Q ((kV q.1, y) :: ps) H3
    refine ⟨e, G, E, (PostG.split p).imp fun d H1 G1 x1 p1 v rv => ?_⟩
    refine tPairs_of l e σ H1 G1 _ (E.ext x1) ((PostG.split p1).imp fun ds H2 G2 x2 p2 vs rs => ?_)
    exact p2.here x2.gh (v :: vs) (.cons (rv.mono x2.gg) rs)
theorem zipK_len : ∀ (ks : List Key) (vs : List V), (zipK ks vs).length ≤ ks.length
  | [], _ => by simp [zipK]
  | _ :: _, [] => by simp [zipK]
  | k :: ks, v :: vs => by
    have := zipK_len ks vs
    rw [zipK, List.length_cons, List.length_cons]; omega
theorem zipK_keys : ∀ (ks : List Key) (vs : List V), ∀ k, k ∈ (zipK ks vs).map (·.1) → k ∈ ks
  | [], _, k, h => by simp [zipK] at h
  | _ :: _, [], k, h => by simp [zipK] at h
  | a :: ks, v :: vs, k, h => by
    rw [zipK, List.map_cons, List.mem_cons] at h
    rcases h with h | h
    · rw [h]; exact List.mem_cons_self
    · exact List.mem_cons_of_mem _ (zipK_keys ks vs k h)
theorem putK_new : ∀ {kvs : List (Key × V)} {k : Key} (v : V), k ∉ kvs.map (·.1) → putK kvs k v = kvs ++ [(k, v)] := by
  intro kvs k v h
  unfold putK
  rw [if_neg]
  intro z
  rw [List.any_eq_true] at z
  obtain ⟨p, hp, e⟩ := z
  exact h (List.mem_map.mpr ⟨p, hp, by simpa using e⟩)
theorem mergeK_new : ∀ (more kvs : List (Key × V)), (∀ k, k ∈ kvs.map (·.1) → k ∉ more.map (·.1)) → (more.map (·.1)).Nodup → mergeK kvs more = kvs ++ more
  | [], kvs, _, _ => by show kvs = _; rw [List.append_nil]
  | p :: more, kvs, h, nd => by
    rw [List.map_cons, List.nodup_cons] at nd
    show mergeK (putK kvs p.1 p.2) more = _
    have hp : p.1 ∉ kvs.map (·.1) := fun z => h _ z (by simp)
    rw [putK_new _ hp, mergeK_new more _ (fun k hk z => ?_) nd.2]
    · simp
    · rw [List.map_append, List.mem_append] at hk
      rcases hk with hk | hk
      · exact h k hk (by rw [List.map_cons]; exact List.mem_cons_of_mem _ z)
      · have : k = p.1 := by simpa using hk
        exact nd.1 (this ▸ z)
theorem zipK_nodup : ∀ (ks : List Key) (vs : List V), ks.Nodup → ((zipK ks vs).map (·.1)).Nodup
  | [], _, _ => by simp [zipK]
  | _ :: _, [], _ => by simp [zipK]
  | k :: ks, v :: vs, h => by
    rw [List.nodup_cons] at h
    rw [zipK, List.map_cons, List.nodup_cons]
    exact ⟨fun z => h.1 (zipK_keys ks vs _ z), zipK_nodup ks vs h.2⟩
theorem zip_rep {G : Hp} : ∀ (ks : List Key) (ds : List D) (vs : List V), RepL K G ds vs → (kzipD ks ds).map (·.1) = (zipK ks vs).map (fun p => keyD p.1) ∧ RepV K G (kzipD ks ds) ((zipK ks vs).map (·.2))
  | [], _, _, _ => ⟨rfl, rfl⟩
  | k :: ks, [], vs, r => by
    cases (show vs = [] from r)
    exact ⟨rfl, rfl⟩
  | k :: ks, d :: ds, vs, r => by
    obtain ⟨v, r', rfl, rv, rr⟩ := r
    obtain ⟨a, b⟩ := zip_rep ks ds r' rr
    refine ⟨?_, v, (zipK ks r').map (·.2), rfl, rv, b⟩
    show keyD k :: (kzipD ks ds).map (·.1) = keyD k :: (zipK ks r').map (fun p => keyD p.1)
    rw [a]
end
section
variable {X : Cx} {W : WX} {A : Nat → Prop} {pos : Pos}
/-- the pairs of the display are these -/
abbrev DPs (X : Cx) (W : WX) (A : Nat → Prop) (pos : Pos) (keys : List (Option Expr)) (values : List Expr) (l : List (Key × (DL.Env → Res D))) : Prop := PPs X pos keys values (l.map (dispT X.K X.mg W A))
theorem dps_nil : DPs X W A pos [] [] [] := pps_nil
theorem dps_str {x : Str} {v : Expr} {ks : List (Option Expr)} {vs : List Expr} {f : DL.Env → Res D} {l : List (Key × (DL.Env → Res D))} {e : Expr} (hk : PE X e (tC (.str x))) (hv : DE X W A v f) (hr : DPs X W A pos ks vs l) : DPs X W A pos (some e :: ks) (v :: vs) ((.inr x, f) :: l) :=
  pps_cons hk hv hr
theorem df_disp {keys : List (Option Expr)} {values : List Expr} {l : List (Key × (DL.Env → Res D))} (h : DPs X W A pos keys values l) (hall : keys.all (·.isSome) = true) (hl : keys.length = values.length) (h0 : keys ≠ []) (h15 : keys.length ≤ 15) (hn : (l.map (·.1)).Nodup) (hl2 : l.length ≤ 15) : DF X W A (.Dict keys values pos) (eDisp l) :=
  (pe_disp h hall hl h0 h15).imp fun σ H Q ⟨e, G, E, q⟩ p hp => by
    have x0 : Ext H G (upd H p (.dK [])) G := ⟨Sub.upd hp, Sub.refl _, E.sub.trans (Sub.upd hp), fun b z => .inl z⟩
    refine tPairs_of l e σ _ G _ (E.ext x0) (((PostG.split q).ext x0).ifok fun ds H2 G2 hk x2 p2 vs rs => ?_)
    have hp2 : H2 p = some (.dK []) := x2.hh p _ upd_same
    have gp : G p = none := E.sub.free hp
    have gp2 : G2 p = none := by
      cases z : G2 p with
      | none => rfl
      | some o =>
        rcases x2.new p (by rw [z]; exact fun h => by cases h) with w | w
        · exact absurd gp w
        · exfalso
          unfold Fr1 at w
          rw [upd_same] at w
          rcases w with w | ⟨_, w⟩
          · cases w
          · cases w
    refine ⟨hp2, zipK (l.map (·.1)) vs, rfl, Nat.le_trans (zipK_len _ _) (by rw [List.length_map]; exact hl2), ?_⟩
    have em : mergeK [] (zipK (l.map (·.1)) vs) = zipK (l.map (·.1)) vs := by
      rw [mergeK_new _ [] (fun k hk => by cases hk) (zipK_nodup _ _ hn), List.nil_append]
    rw [em]
    obtain ⟨z1, z2⟩ := zip_rep (l.map (·.1)) ds vs rs
    have sub : Sub H (upd H2 p (.dK (zipK (l.map (·.1)) vs))) := fun b o hb => by
      have ne : b ≠ p := fun z => by rw [z, hp] at hb; cases hb
      rw [upd_ne ne]
      exact x2.hh b o (by rw [upd_ne ne]; exact hb)
    have gsub : Sub G2 (upd H2 p (.dK (zipK (l.map (·.1)) vs))) := fun b o hb => by
      have ne : b ≠ p := fun z => by rw [z, gp2] at hb; cases hb
      rw [upd_ne ne]
      exact x2.gh b o hb
    have ext : Ext H G (upd H2 p (.dK (zipK (l.map (·.1)) vs))) G2 := ⟨sub, x2.gg, gsub, fun b hb => (x2.new b hb).imp id fun z => z.back (Sub.upd hp)⟩
    unfold eDisp at q
    rw [hk] at q
    exact q _ _ ext p hp gp2 (.inl ⟨rfl, _, upd_same, z1, z2⟩)
end
end DL

/-! dict(d); dicts with number and text keys compared -/
namespace DL
open PySem PySem.Spec PyProof.Rows L2
open PySem.Builtin.Int (intBits)
section
variable {X : Cx} {W : WX}
/-- dict(d) -/
def dDict : D → Res D
  | .dct false kvs => .ok (.dct false kvs)
  | _ => .bad
theorem c1_dict : Call1F X W (.type "dict") dDict := by
  refine ⟨_, call_dictD, fun σ H G x dx Q sg rx p => ?_⟩
  cases dx with
  | dct t kvs =>
    obtain ⟨a, e, h⟩ := rx
    subst e
    rcases h with ⟨rfl, ps, h1, h2, h3⟩ | ⟨rfl, ps, h1, h2, h3⟩
    · refine ⟨a, ps, rfl, h1, fun l hl => ?_⟩
      exact (show PostG X.K X.mg _ H G (Res.ok (D.dct false kvs)) _ from p) (upd H l (.dK ps)) G ⟨Sub.upd hl, Sub.refl _, sg.trans (Sub.upd hl), fun b z => .inl z⟩ l hl (sg.free hl) (.inl ⟨rfl, ps, upd_same, h2, h3⟩)
    · exact (show False from p).elim
  | _ => exact (show False from p).elim
/-! ### == -/
end
end DL

/-! max, min of a list of numbers -/
namespace DL
open PySem PySem.Spec PyProof.Rows L2
open PySem.Builtin.Int (intBits)
section
variable {X : Cx} {W : WX}
end
end DL

/-! slices and sums of lists are new lists -/
namespace DL
open PySem PySem.Spec PyProof.Rows L2
open PySem.Builtin.Int (intBits)
section
variable {X : Cx} {W : WX} {A : Nat → Prop} {a b : Expr} {lo hi : Option Expr} {pos p2 : Pos}
end
end DL

/-! sets of numbers and texts made of a list: how many, and sorted -/
namespace DL
open PySem PySem.Spec PyProof.Rows L2
open PySem.Builtin.Int (intBits)
section
variable {α β : Type} {F : α → β → Prop}
end
def GoodK (P : Program) (w : World) (k : Key) (e : Int × Value) : Prop := (mixKind P w).is k e.2 = true ∧ e.1 = (mixKind P w).hash k ∧ e.2.scannable = true
/-- a set of numbers and texts, that can be walked -/
def SetG (P : Program) (w : World) (h : Heap) (a : Addr) (ks : List Key) : Prop :=
  ∃ o es ep t ls, h.get? a = some o ∧ o.ExactSet ∧ o.data = .set es ep t ∧ Paired (GoodK P w) ls es.toList ∧ ls.Perm ks ∧ ks.Nodup ∧ es.size < scanBound ∧ t.fits es.size = true ∧ L2.Ris t.place.toList ∧ (w.params.followText "set-order" = true ∨ t.led = true)
section
variable {P : Program} {w : World} {A : Around} {E : Value → Shared → Prop} {s : Shared} {a : Addr} {ks : List Key}
theorem SetG.at {h h' : Heap} (R : SetG P w h a ks) (k : ∀ o, h.get? a = some o → h'.get? a = some o) : SetG P w h' a ks := by
  obtain ⟨o, es, ep, t, ls, ho, r⟩ := R
  exact ⟨o, es, ep, t, ls, k o ho, r⟩
set_option maxRecDepth 100000 in
set_option maxHeartbeats 3200000 in
end
end DL

/-! len(set(l)), sorted(set(l)) of numbers and texts -/
namespace DL
open PySem PySem.Spec PyProof.Rows L2
section
open PySem.W PySem.Calls PySem.SeqAt
variable {prog : Program} {w : World} {A : Around} {s : Shared}
end
/-! ### keys in order -/
/-! ### the rules -/
def D.key : D → Option Key
  | .int i => some (.inl i)
  | .str x => some (.inr x)
  | _ => none
def D.keys : List D → Option (List Key)
  | [] => some []
  | d :: r => match d.key, D.keys r with
    | some k, some ks => some (k :: ks)
    | _, _ => none
section
variable {X : Cx} {W : WX} {A : Nat → Prop} {a : Expr} {p p2 q pos : Pos}
end
end DL

/-! len(set(l)), sorted(set(l)), max(l, default=c) over data -/
namespace DL
open PySem PySem.Spec PyProof.Rows L2
section
variable {X : Cx} {W : WX} {A : Nat → Prop} {a : Expr} {p p2 q pos : Pos}
/-! max(l, default=c) -/
end
end DL

/-! a <= b <= c <= d; l.count(n) -/
namespace DL
open PySem PySem.Spec PyProof.Rows L2
section
variable {X : Cx} {W : WX} {A : Nat → Prop} {a b c d : Expr} {pos : Pos}
/-! l.count(n) of whole numbers -/
end
end DL

/-! a tuple times a number, the factor one, too -/
namespace L2
open PySem PySem.Spec PyProof.Rows
variable {X : Cx}
end L2
namespace DL
open PySem PySem.Spec PyProof.Rows L2
section
variable {X : Cx} {W : WX}
end
end DL

/-! a def that is handed a list of the caller's own as its first value and gives back one of its own -/
namespace DL
open PySem PySem.Spec PyProof.Rows L2
/-- such a def's promise -/
def spO (K : PySem.W.Frag) (mg : Str → Option Value) (n : Nat) (F : List D → Res D) : Sp := fun vs H Q E => vs.length = n ∧ ∃ a vr d dr G Hm, vs = .ref a :: vr ∧ Sub G Hm ∧ Sub Hm H ∧ Hm a = none ∧ OwnC K H G d a ∧ RepL K G dr vr ∧
  PostG K mg E Hm G (F (d :: dr)) fun r H' G' => ∀ b, Hm b = none → G' b = none → OwnC K H' G' r b → Q (.ref b) H'
structure CallOkO (P : Program) (w : World) (K : PySem.W.Frag) (mg : Str → Option Value) (base : Heap) (k : Nat) (x : Str) (ps : List Str) (F : List D → Res D) : Prop where
  ok : ∃ f fd, mg x = some (.ref f) ∧ PySem.W.keepIn K (.ref f) = true ∧ Binds K fd ps [] ∧ FnOk P w K mg base (L2.CX P w) k f fd ps (spO K mg ps.length F)
theorem CallOkO.up {P : Program} {w : World} {K : PySem.W.Frag} {mg : Str → Option Value} {base : Heap} {j k : Nat} {x : Str} {ps : List Str} {F : List D → Res D} (h : CallOkO P w K mg base j x ps F) (hjk : j ≤ k) : CallOkO P w K mg base k x ps F :=
  let ⟨f, fd, h1, h2, h3, h4⟩ := h.ok
  ⟨f, fd, h1, h2, h3, h4.mono hjk⟩
section
variable {X : Cx} {W : WX} {H0 : Bas} {G0 : Hp} {al : List Nat} {pos p : Pos}
theorem StOk.lose {K : PySem.W.Frag} {H G : Hp} {σ : L2.St} {e : DL.Env} (S : StOk K H0 G0 σ e H G) (i : Nat) : StOk K H0 G0 σ (e.set i none) H G := by
  have get : ∀ (j : Nat) (s : D × Bool), (e.set i none)[j]? = some (some s) → e[j]? = some (some s) := fun j s h => by
    rcases set_get h with ⟨_, z⟩ | ⟨_, z⟩
    · cases z
    · exact z
  exact ⟨S.ext, by rw [List.length_set]; exact S.len, fun j d h => S.sh j d (get j _ h), fun j d h => S.ow j d (get j _ h), fun j k d d' a h1 h2 h3 h4 => S.ne j k d d' a (get j _ h1) (get k _ h2) h3 h4, fun j a d hp h => S.pn j a d hp (get j _ h)⟩
end
end DL

/-! d.values() as a value; max(d.values(), default=c) -/
namespace L2
open PySem PySem.Spec PyProof.Rows
section
variable {X : Cx} {o : Expr} {apos mpos : Pos} {td : TE}
end
end L2
namespace DL
open PySem PySem.Spec PyProof.Rows L2
section
variable {X : Cx} {W : WX} {A : Nat → Prop} {o : Expr} {apos mpos p pos : Pos}
theorem Rd.mono' {H H' : Hp} (h : Sub H H') {a : Addr} {u : HO} (r : Rd H a u) : Rd H' a u := h.rd r
end
end DL

/-! comprehensions within one another -/
namespace DL
open PySem PySem.Spec PyProof.Rows L2
end DL

/-! dicts that are walked: keys, values, items -/
namespace DL
open PySem PySem.Spec PyProof.Rows L2
section
variable {X : Cx} {pins : List (Addr × Obj)} {σ : L2.St} {H : Hp} {s : Shared} {d : Addr} {o : Obj}
theorem frzT2 {kvs : List (List Key × V)} (I : Inv X pins σ H s) (h : H d = some (.frz o (.dT kvs))) :
    (d == sysModules) = false ∧ s.heap.get? d = some o ∧ o.ExactDict ∧ ∃ (es : Array DictEntry) (ep : Nat), o.data = .dict es ep ∧ es.size = kvs.length ∧
      ∀ (i : Nat) (hi : i < es.size) (k : List Key) (v : V), kvs[i]? = some (k, v) → ∃ q : Addr, es[i].key = .ref q ∧ H q = some (.tup (k.map kV)) ∧ RelV v es[i].val := by
  obtain ⟨hd, z, hs, xs, pr, o', es, ep, ho, hx, hdt, he, _⟩ := I.hok d _ h
  rw [hd] at ho
  cases ho
  refine ⟨hs, hd, hx, es, ep, hdt, ?_, fun i hi k v e => ?_⟩
  · have l1 : es.size = xs.length := size_of_entries he
    have l2 : kvs.length = xs.length := Paired.length pr
    omega
  · obtain ⟨b, hb, e1, e2, e3⟩ := paired_get pr e
    have q := entry_at he i
    rw [hb, Array.getElem?_eq_getElem hi] at q
    have q' := Option.some.inj q
    exact ⟨b.2.1, by rw [q']; rfl, e2, by rw [q']; exact e3⟩
end
def ItdT (d : Addr) (o : Obj) (kvs : List (List Key × V)) : It :=
  ⟨fun i H => H d = some (.frz o (.dT kvs)) ∧ i < kvs.length, fun i H x H' => H' = H ∧ ∃ k, kvs[i]? = some (k, x), fun i H => H d = some (.frz o (.dT kvs)) ∧ kvs.length ≤ i⟩
def ItiT (d : Addr) (o : Obj) (kvs : List (List Key × V)) : It :=
  ⟨fun i H => H d = some (.frz o (.dT kvs)) ∧ i < kvs.length, fun i H x H' => ∃ T k v q, kvs[i]? = some (k, v) ∧ H q = some (.tup (k.map kV)) ∧ x = .ref T ∧ H T = none ∧ H' = upd H T (.tup [.ref q, v]), fun i H => H d = some (.frz o (.dT kvs)) ∧ kvs.length ≤ i⟩
section
variable {P : Program} {w : World} {K : PySem.W.Frag} {tg : Expr} {d : Addr} {o : Obj} {es : Array DictEntry} {ep : Nat}
theorem turn_valsT {kvs : List (List Key × V)} (it : Addr) (hod : o.data = .dict es ep) : Turn P w K tg (ItdT d o kvs) [it] it (fun i h => h.IsValIter it d i kvs.length ep) where
  mem := by simp
  obj := fun i h st b hb => by
    have e : b = it := by simpa using hb
    subst e
    obtain ⟨oi, e, c, dd⟩ := st
    exact ⟨oi, e, fun v z => by rw [dd] at z; cases z⟩
  keep := fun i h h' st k => st.at fun oi e => k it (by simp) oi e
  item := by
    intro X hP hw hK hc i pins s σ H E I hf st hg
    subst hP hw hK
    obtain ⟨hd, hi⟩ := hg
    obtain ⟨f0, f1, f2, f3, f4, f5⟩ := hf it (by simp)
    obtain ⟨hs, hgd, hx, es', ep', hdt, hsz, ent⟩ := frzT2 I hd
    obtain ⟨rfl, rfl⟩ := dict_ep hod hdt
    obtain ⟨⟨k, v⟩, hkv⟩ : ∃ p, kvs[i]? = some p := ⟨kvs[i], List.getElem?_eq_getElem hi⟩
    have hi' : i < es'.size := by rw [hsz]; exact hi
    obtain ⟨q, _, _, ru⟩ := ent i hi' k v hkv
    rw [← hsz] at st
    refine wpAny_pyNext_values_item_raw st ⟨o, hgd, hx, hdt⟩ hi' fun h' st' sb => ?_
    have I1 : Inv X pins σ H { s with heap := h' } := I.turned (t' := s.toks) (fun b ob hb e => (sb.2 b hb).trans e) f0 f1 f3 f4 f5
    obtain ⟨oi, e, c, dd⟩ := id st'
    refine ⟨es'[i].val, rfl, go_of (s := { s with heap := h' }) e c dd (by decide) ⟨v, H, I1, ru, ⟨rfl, k, hkv⟩, ?_, fun b hb => (hf b hb).1⟩⟩
    show h'.IsValIter it d (i + 1) kvs.length _
    rw [← hsz]
    exact st'
  done := by
    intro X hP hw hK hc i pins s σ H E I hf st hg
    subst hP hw hK
    obtain ⟨hd, hi⟩ := hg
    obtain ⟨f0, f1, f2, f3, f4, f5⟩ := hf it (by simp)
    obtain ⟨hs, hgd, hx, es', ep', hdt, hsz, ent⟩ := frzT2 I hd
    obtain ⟨rfl, rfl⟩ := dict_ep hod hdt
    rw [← hsz] at st
    exact wpAny_pyNext_values_end_raw (I.ok.hd hc) st ⟨o, hgd, hx, hdt⟩ (by omega) fun h' eb => ⟨rfl, I.turned (t' := s.toks) (fun b ob hb e => eb b ob hb e) f0 f1 f3 f4 f5⟩
  self := fun A i s Q E st h => wpAny_pyIter_valiter st h
theorem turn_itemsT {kvs : List (List Key × V)} {elts : List Expr} {kk : Nat} {tpos : Pos} (it : Addr) (hod : o.data = .dict es ep) :
    Turn P w K (.Tuple elts kk tpos) (ItiT d o kvs) [it] it (fun i h => ∃ ok ov, IsItemIter h it d i kvs.length ep ok ov) where
  mem := by simp
  obj := fun i h st b hb => by
    have e : b = it := by simpa using hb
    subst e
    obtain ⟨ok, ov, e⟩ := st
    exact ⟨_, e, fun v z => nomatch z⟩
  keep := fun i h h' st k => let ⟨ok, ov, e⟩ := st; ⟨ok, ov, k it (by simp) _ e⟩
  item := by
    intro X hP hw hK hc i pins s σ H E I hf st hg
    subst hP hw hK
    obtain ⟨hd, hi⟩ := hg
    obtain ⟨hs, hgd, hx, es', ep', hdt, hsz, ent⟩ := frzT2 I hd
    obtain ⟨rfl, rfl⟩ := dict_ep hod hdt
    obtain ⟨⟨k, v⟩, hkv⟩ : ∃ p, kvs[i]? = some p := ⟨kvs[i], List.getElem?_eq_getElem hi⟩
    have hi' : i < es'.size := by rw [hsz]; exact hi
    obtain ⟨q, hkq, hq, ru⟩ := ent i hi' k v hkv
    obtain ⟨ok, ov, he⟩ := st
    rw [← hsz] at he
    have hlt : it < s.heap.objs.size := Heap.lt_size he
    refine wpAny_pyNext_items_item_raw he ⟨o, hgd, hx, hdt⟩ hi' fun h' ho hT hz hk => ?_
    refine ⟨_, rfl, wpAny_letOwnedTupleGo_items (s := { s with heap := h' }) ho fun h'' he' sb => ?_⟩
    have hT2 : h''.get? s.heap.objs.size = some { cls := .type "tuple", data := .seq #[es'[i].key, es'[i].val] } := (sb.2 _ (Nat.ne_of_gt hlt)).trans hT
    have new : ObjOk X.prog X.w (upd H s.heap.objs.size (.tup [.ref q, v])) h'' s.heap.objs.size (.tup [.ref q, v]) :=
      ⟨by show 2 ≤ sizeLine; decide, [es'[i].key, es'[i].val], .cons hkq (.cons ru .nil), ⟨_, hT2, rfl, _, rfl⟩⟩
    have I1 : Inv X pins σ (upd H s.heap.objs.size (.tup [.ref q, v])) { s with heap := h'' } :=
      I.turnedNew (t' := s.toks) (ch := [it]) (fun b ob hb e => (sb.2 b (by simpa using hb)).trans (hk b ob (by simpa using hb) e)) hf (Nat.le_refl _) new
    refine ⟨.ref s.heap.objs.size, _, I1, rfl, ⟨_, k, v, q, hkv, hq, rfl, I.hok.fresh (Nat.le_refl _), rfl⟩, ⟨es'[i].key, es'[i].val, ?_⟩, fun b hb => ?_⟩
    · rw [← hsz]; exact he'
    · have e : b = it := by simpa using hb
      rw [e, upd_ne (Nat.ne_of_lt hlt)]
      exact (hf it (by simp)).1
  done := by
    intro X hP hw hK hc i pins s σ H E I hf st hg
    subst hP hw hK
    obtain ⟨hd, hi⟩ := hg
    obtain ⟨f0, f1, f2, f3, f4, f5⟩ := hf it (by simp)
    obtain ⟨hs, hgd, hx, es', ep', hdt, hsz, ent⟩ := frzT2 I hd
    obtain ⟨rfl, rfl⟩ := dict_ep hod hdt
    obtain ⟨ok, ov, he⟩ := st
    rw [← hsz] at he
    exact wpAny_pyNext_items_end_raw (I.ok.hd hc) he ⟨o, hgd, hx, hdt⟩ (by omega) fun h' eb => ⟨rfl, I.turned (t' := s.toks) (fun b ob hb e => eb b ob hb e) f0 f1 f3 f4 f5⟩
  self := fun A i s Q E st h => let ⟨_, _, e⟩ := st; PySem.W.kcp_self e h
end
def iItems2 (td : TE) : TI := fun σ H R => td σ H fun x H1 => ∃ d o, x = .ref d ∧ ((∃ kvs, H1 d = some (.frz o (.dK kvs)) ∧ R (Iti d o kvs) H1) ∨ ∃ kvs, H1 d = some (.frz o (.dT kvs)) ∧ R (ItiT d o kvs) H1)
section
variable {X : Cx} {tg e : Expr} {td : TE} {apos cpos : Pos}
theorem pi_items2 {elts : List Expr} {kk : Nat} {tpos : Pos} (he : PE X e td) (hbase : attributeBase e "items" X.env (eval e X.env) = eval e X.env := by rfl) (hline : (apos.endLine == cpos.line) = true := by rfl) : PI X (.Tuple elts kk tpos) (.Call (.Attribute e "items" apos) [] [] cpos) (iItems2 td) := by
  refine ⟨fun pins s σ H R I h => ?_⟩
  refine wpAny_Call_method (T := "dict") (id := "dict.items") hbase rfl hline F.plainAttrs_dict F.slot_dict_items F.type_dict_items (thn (he.run pins s σ H _ I h) fun u s1 ⟨x, H1, I1, rx, d, o, ex, hq⟩ => ?_)
  subst ex
  obtain rfl : u = Value.ref d := rx
  have raw : ∃ (es : Array DictEntry) (ep : Nat), (d == sysModules) = false ∧ s1.heap.get? d = some o ∧ o.ExactDict ∧ o.data = .dict es ep ∧ ∃ (J : It) (tn : Addr → Nat → Heap → Prop), (∀ it, Turn X.prog X.w X.K (.Tuple elts kk tpos) J [it] it (tn it)) ∧ (∀ (it : Addr) (h : Heap), h.get? it = some { cls := .type "dict_itemiterator", data := .fields #[.none, .bool false, .ref d, .int 0 0, .int es.size 0, .int ep 0, .none, .none] } → tn it 0 h) ∧ R J H1 := by
    rcases hq with ⟨kvs, hd, q⟩ | ⟨kvs, hd, q⟩
    · obtain ⟨hs, hgd, hx, es, ep, vs, hdt, hsz, kv, hm⟩ := I1.frzK hd
      exact ⟨es, ep, hs, hgd, hx, hdt, _, _, fun it => turn_items it hdt, fun it h e => ⟨.none, .none, by rw [← hsz]; exact e⟩, q⟩
    · obtain ⟨hs, hgd, hx, es, ep, hdt, hsz, ent⟩ := frzT2 I1 hd
      exact ⟨es, ep, hs, hgd, hx, hdt, _, _, fun it => turn_itemsT it hdt, fun it h e => ⟨.none, .none, by rw [← hsz]; exact e⟩, q⟩
  obtain ⟨es, ep, hs, hgd, hx, hdt, J, tn, T, st, q⟩ := raw
  have hty : s1.TypeIs (.ref d) "dict" := ⟨o, hgd, hx.1⟩
  refine ⟨hty, fun a e => by cases e; exact ⟨o, hgd, hx.2.1⟩, ?_⟩
  have I2 : Inv X pins σ H1 { s1 with heap := s1.heap.push { cls := .type "dict_items", data := .fields #[.ref d] } } := I1.kept (t' := s1.toks) fun b ob q => Heap.get?_push_of_some _ q
  have fin : wpAny (model X.prog X.w) X.A (pyIter (.ref s1.heap.objs.size)) (PIE X pins σ (.Tuple elts kk tpos) R) X.xe { s1 with heap := s1.heap.push { cls := .type "dict_items", data := .fields #[.ref d] } } :=
    wpAny_pyIter_items_raw (d := d) (es := es) (ep := ep) ⟨_, Heap.get?_push_size _ rfl, rfl, rfl⟩ ⟨o, Heap.get?_push_of_some _ hgd, hx, hdt⟩ (pi_one (tk := s1.toks) I2 _ (T _) (st _ _ (Heap.get?_push_size _ rfl)) q)
  show wpAny _ _ (callWith cpos (.builtin "dict.items") [.ref d] [] []) _ X.xe s1
  exact method_meetsIn F.slot_dict_items F.entry_dict_items rfl (PySem.evalArgs_none ⟨rfl, hty, F.args_dict_items_1 _, _, meets_dict_items_raw d hs, ⟨es, ep, o, hgd, hx, hdt⟩, fin⟩)
end
/-! what they walk, as data -/
def iKeysD (f : DL.Env → Res D) : DL.Env → Res (List D) := fun e => (f e).bind fun d => match d with
  | .dct _ kvs => .ok (kvs.map (·.1))
  | _ => .bad
def iItemsD (f : DL.Env → Res D) : DL.Env → Res (List D) := fun e => (f e).bind fun d => match d with
  | .dct _ kvs => .ok (kvs.map fun p => D.tup [p.1, p.2])
  | _ => .bad
section
variable {K : PySem.W.Frag} {B G : Hp} {d : Addr} {o : Obj}
theorem repV_get : ∀ {kvs : List (D × D)} {vs : List V} {i : Nat} {v : V}, RepV K G kvs vs → vs[i]? = some v → ∃ p, kvs[i]? = some p ∧ Rep K G p.2 v
  | [], _, i, v, e, h => by rw [show _ = [] from e] at h; simp at h
  | (k, x) :: _, _, 0, v, ⟨w, r, e, a, b⟩, h => by rw [e] at h; cases h; exact ⟨_, rfl, a⟩
  | (k, x) :: _, _, i + 1, v, ⟨w, r, e, a, b⟩, h => by
    rw [e] at h
    obtain ⟨p, h1, h2⟩ := repV_get (i := i) (v := v) b (by simpa using h)
    exact ⟨p, by simpa using h1, h2⟩
theorem rep_keyD (k : Key) : Rep K G (keyD k) (kV k) := by cases k <;> rfl
theorem repL_keysD : ∀ (k : List Key), RepL K G (k.map keyD) (k.map kV)
  | [] => rfl
  | a :: r => ⟨_, _, rfl, rep_keyD a, repL_keysD r⟩
theorem key_at {α β γ : Type} {kvs : List (D × γ)} {ps : List (α × β)} {f : α → D} (hk : kvs.map (·.1) = ps.map fun p => f p.1) {i : Nat} {p : α × β} (h : ps[i]? = some p) : ∃ q, kvs[i]? = some q ∧ q.1 = f p.1 := by
  have e : (kvs.map (·.1))[i]? = some (f p.1) := by rw [hk, List.getElem?_map, h]; rfl
  rw [List.getElem?_map] at e
  cases hq : kvs[i]? with
  | none => rw [hq] at e; cases e
  | some q => rw [hq] at e; exact ⟨q, rfl, Option.some.inj e⟩
theorem keys_len {α β : Type} {kvs : List (D × D)} {ps : List (α × β)} {f : α → D} (hk : kvs.map (·.1) = ps.map fun p => f p.1) : kvs.length = ps.length := by
  have := congrArg List.length hk
  rwa [List.length_map, List.length_map] at this
/-- a tuple that stands there may be known -/
theorem ext_tup {H G2 : Hp} {q : Addr} {vs : List V} (g2 : Sub G2 H) (hq : H q = some (.tup vs)) : ∃ G', Ext H G2 H G' ∧ G' q = some (.tup vs) := by
  refine ⟨fun b => if b = q then H q else G2 b, ⟨Sub.refl _, fun b o z => ?_, fun b o z => ?_, fun b z => ?_⟩, ?_⟩
  · show (if b = q then H q else G2 b) = some o
    by_cases hb : b = q
    · rw [if_pos hb]; rw [hb] at z; exact g2 _ _ z
    · rw [if_neg hb]; exact z
  · have z' : (if b = q then H q else G2 b) = some o := z
    by_cases hb : b = q
    · rw [if_pos hb] at z'; rw [hb]; exact z'
    · rw [if_neg hb] at z'; exact g2 _ _ z'
  · have z' : (if b = q then H q else G2 b) ≠ none := z
    by_cases hb : b = q
    · rw [hb]; exact .inr (.inr ⟨vs, hq⟩)
    · rw [if_neg hb] at z'; exact .inl z'
  · show (if q = q then H q else G2 q) = _
    rw [if_pos rfl]; exact hq
theorem walk_itemsK {kvs : List (D × D)} {ps : List (Key × V)} (h : B d = some (.frz o (.dK ps))) (hk : kvs.map (·.1) = ps.map fun p => keyD p.1) (r : RepV K G kvs (ps.map (·.2))) : WalkOf K (Iti d o ps) (kvs.map fun p => D.tup [p.1, p.2]) B G where
  go := fun H i s hi => ⟨s _ _ h, by rw [List.length_map, keys_len hk] at hi; exact hi⟩
  stop := fun H s => ⟨s _ _ h, by rw [List.length_map, keys_len hk]; exact Nat.le_refl _⟩
  yld := fun H G2 i x H' s g g2 hi y => by
    obtain ⟨T, k, v, hp, ex, hT, e⟩ := y
    subst ex e
    obtain ⟨p, h1, h2⟩ := repV_get (i := i) (v := v) r (by rw [List.getElem?_map, hp]; rfl)
    obtain ⟨p', h1', h3⟩ := key_at hk hp
    rw [h1] at h1'; cases h1'
    have xt := Ext.laid (o := .tup [kV k, v]) g2 hT
    exact ⟨.tup [p.1, p.2], _, by rw [List.getElem?_map, h1]; rfl, xt, ⟨T, _, rfl, upd_same, ⟨_, _, rfl, by rw [h3]; exact rep_keyD k, _, _, rfl, (h2.mono g).mono xt.gg, rfl⟩⟩⟩
theorem walk_itemsT {kvs : List (D × D)} {ps : List (List Key × V)} (h : B d = some (.frz o (.dT ps))) (hk : kvs.map (·.1) = ps.map fun p => keyT p.1) (r : RepV K G kvs (ps.map (·.2))) : WalkOf K (ItiT d o ps) (kvs.map fun p => D.tup [p.1, p.2]) B G where
  go := fun H i s hi => ⟨s _ _ h, by rw [List.length_map, keys_len hk] at hi; exact hi⟩
  stop := fun H s => ⟨s _ _ h, by rw [List.length_map, keys_len hk]; exact Nat.le_refl _⟩
  yld := fun H G2 i x H' s g g2 hi y => by
    obtain ⟨T, k, v, q, hp, hq, ex, hT, e⟩ := y
    subst ex e
    obtain ⟨p, h1, h2⟩ := repV_get (i := i) (v := v) r (by rw [List.getElem?_map, hp]; rfl)
    obtain ⟨p', h1', h3⟩ := key_at hk hp
    rw [h1] at h1'; cases h1'
    obtain ⟨G', x1, x2⟩ := ext_tup g2 hq
    have xt := x1.trans (Ext.laid (o := .tup [.ref q, v]) x1.gh hT)
    refine ⟨.tup [p.1, p.2], _, by rw [List.getElem?_map, h1]; rfl, xt, ⟨T, _, rfl, upd_same, ⟨_, _, rfl, ?_, _, _, rfl, (h2.mono g).mono xt.gg, rfl⟩⟩⟩
    rw [h3]
    exact Rep.mono (Ext.laid (o := .tup [.ref q, v]) x1.gh hT).gg (d := keyT k) ⟨q, _, rfl, x2, repL_keysD k⟩
end
section
variable {X : Cx} {W : WX} {A : Nat → Prop} {tg ex : Expr} {f : DL.Env → Res D} {apos cpos : Pos}
theorem di_items {elts : List Expr} {kk : Nat} {tpos : Pos} (h : DE X W A ex f) (hbase : attributeBase ex "items" X.env (eval ex X.env) = eval ex X.env := by rfl) (hline : (apos.endLine == cpos.line) = true := by rfl) : DI X W A (.Tuple elts kk tpos) (.Call (.Attribute ex "items" apos) [] [] cpos) (iItemsD f) :=
  (pi_items2 h hbase hline).imp fun σ H Q ⟨e, G, E, p⟩ => ⟨e, G, E, p.split.imp fun d H1 G1 x1 p1 v rv => by
    cases d with
    | dct t kvs =>
      obtain ⟨a, rfl, ⟨_, od, ps, s, k, r⟩ | ⟨_, od, ps, s, k, r⟩⟩ := rv
      · exact ⟨a, od, rfl, .inl ⟨ps, x1.gh _ _ s, PostG.here (a := kvs.map fun p => D.tup [p.1, p.2]) p1 x1.gh _ (walk_itemsK s k r)⟩⟩
      · exact ⟨a, od, rfl, .inr ⟨ps, x1.gh _ _ s, PostG.here (a := kvs.map fun p => D.tup [p.1, p.2]) p1 x1.gh _ (walk_itemsT s k r)⟩⟩
    | _ => exact (show False from p1).elim⟩
end
end DL

/-! dicts with tuple keys compared (values whole numbers) -/
namespace DL.EqH
open Lean PySem PySem.Calls PyProof.Rows PyProof.V PySem.Spec PySem.W
section
variable {prog : Program} {w : World} {K : Type} [DecidableEq K] {knd : HeapKind prog w K} {A : Around} {E : Value → Shared → Prop} {s : Shared}
inductive HitsH {K : Type} [DecidableEq K] (A : Around) (s : Shared) (kb : List (K × Addr × Value)) : List (K × Addr × Value) → Bool → Prop
  | nil : HitsH A s kb [] true
  | miss {k : K} {v : Addr × Value} {r : List (K × Addr × Value)} : (∀ (j : Nat) (p : Addr × Value), kb[j]? ≠ some (k, p)) → HitsH A s kb ((k, v) :: r) false
  | hit {k : K} {v y : Addr × Value} {r : List (K × Addr × Value)} {e b : Bool} {j : Nat} : kb[j]? = some (k, y) → SeqAt.EqAt A s v.2 y.2 e → HitsH A s kb r b → HitsH A s kb ((k, v) :: r) (e && b)
theorem HitsH.inv {kb : List (K × Addr × Value)} {k : K} {v : Addr × Value} {r : List (K × Addr × Value)} {b : Bool} (h : HitsH A s kb ((k, v) :: r) b) :
    ((∀ (j : Nat) (p : Addr × Value), kb[j]? ≠ some (k, p)) ∧ b = false) ∨ ∃ (j : Nat) (y : Addr × Value) (e b' : Bool), kb[j]? = some (k, y) ∧ SeqAt.EqAt A s v.2 y.2 e ∧ HitsH A s kb r b' ∧ b = (e && b') := by
  cases h with
  | miss hn => exact .inl ⟨hn, rfl⟩
  | hit hy he hr => exact .inr ⟨_, _, _, _, hy, he, hr, rfl⟩
theorem once {kb : List (K × Addr × Value)} (hn : (kb.map (·.1)).Nodup) {i j : Nat} {k : K} {p q : Addr × Value} (h1 : kb[i]? = some (k, p)) (h2 : kb[j]? = some (k, q)) : i = j := by
  obtain ⟨a1, a2⟩ := List.getElem?_eq_some_iff.mp h1
  obtain ⟨b1, b2⟩ := List.getElem?_eq_some_iff.mp h2
  have l1 : i < (kb.map (·.1)).length := by rwa [List.length_map]
  have l2 : j < (kb.map (·.1)).length := by rwa [List.length_map]
  refine (List.getElem_inj (h₀ := l1) (h₁ := l2) hn).mp ?_
  rw [List.getElem_map, List.getElem_map, a2, b2]
end
end DL.EqH
namespace DL
open PySem PySem.Spec PyProof.Rows L2
section
variable {X : Cx} {W : WX}
end
end DL

/-! isinstance(e, (A, B, ..)), e the error that a handler names -/
namespace DL
open PySem PySem.Spec PyProof.Rows L2
def anyO : List (Option Bool) → Option Bool
  | [] => some false
  | some true :: _ => some true
  | some false :: r => anyO r
  | none :: _ => none
/-- the tables of several classes, at the class k -/
inductive Tabs (K : PySem.W.Frag) (mg : Str → Option Value) (k : String) : List V → List Value → List (Option Bool) → Prop where
  | nil : Tabs K mg k [] [] []
  | cons {c : Addr} {t : String → Option Bool} {vs : List V} {us : List Value} {os : List (Option Bool)} (h : IsTab K mg (.ref c) t) (r : Tabs K mg k vs us os) : Tabs K mg k (.ref c :: vs) (.ref c :: us) (t k :: os)
theorem Tabs.cls {K : PySem.W.Frag} {mg : Str → Option Value} {k : String} {vs : List V} {us : List Value} {os : List (Option Bool)} (h : Tabs K mg k vs us os) : Paired ClsV vs us := by
  induction h with
  | nil => exact .nil
  | cons _ _ ih => exact .cons (.own _) ih
theorem Tabs.any {K : PySem.W.Frag} {mg : Str → Option Value} {k : String} {C : Addr} (hm : mg (Str.ofString k) = some (.ref C)) {vs : List V} {us : List Value} {os : List (Option Bool)} (h : Tabs K mg k vs us os) : ∀ {b : Bool}, anyO os = some b → PySem.W.kitAny K (.ref C) us = some b := by
  induction h with
  | nil => intro b h; cases h; exact kitAny_nil
  | @cons c t vs us os h r ih =>
    intro b hb
    cases ht : t k with
    | none => rw [ht] at hb; cases hb
    | some z =>
      obtain ⟨C', e, _, h3⟩ := h k z _ ht hm
      cases e
      rw [ht] at hb
      cases z with
      | true => cases hb; exact kitAny_cons h3 (fun z => by cases z) fun _ => rfl
      | false => exact kitAny_cons h3 (fun _ => ih hb) fun z => by cases z
section
variable {X : Cx} {W : WX} {A : Nat → Prop} {pos p p1 p2 : Pos}
end
end DL

/-! a def that is lent lists and dicts of the caller's own: it may change them; the caller has them back -/
namespace DL
open PySem PySem.Spec PyProof.Rows L2
/-- the promise of a def that is lent its parameters at bs -/
def spM (K : PySem.W.Frag) (mg : Str → Option Value) (n : Nat) (bs : List Nat) (F : List D → Res (D × List D)) : Sp := fun vs H Q E => vs.length = n ∧ ∃ (ds : List D) (G : Hp) (B : Bas), Sub G B.hp ∧ Sub B.hp H ∧ ds.length = n ∧
  (∀ i d, ds[i]? = some d → i ∉ bs → ∃ v, vs[i]? = some v ∧ Rep K G d v) ∧
  (∀ i d, ds[i]? = some d → i ∈ bs → ∃ a, B.pin i = some a ∧ vs[i]? = some (.ref a) ∧ B.hp a = none ∧ OwnC K H G d a) ∧
  (∀ i, i ∉ bs → B.pin i = none) ∧ (∀ i j a, B.pin i = some a → B.pin j = some a → i = j) ∧
  match F ds with
  | .ok (r, cs) => ∀ H' G', Ext B.hp G H' G' → (∀ (k i : Nat) c, bs[k]? = some i → cs[k]? = some c → ∃ a, B.pin i = some a ∧ B.hp a = none ∧ G' a = none ∧ OwnC K H' G' c a) → ∀ v, Rep K G' r v → Q v H'
  | .exc c fs => ∀ cls o H', Sub B.hp H' → IsExc K mg c fs cls o B.hp H' → E cls o H'
  | .bad => False
structure CallOkM (P : Program) (w : World) (K : PySem.W.Frag) (mg : Str → Option Value) (base : Heap) (k : Nat) (x : Str) (ps : List Str) (bs : List Nat) (F : List D → Res (D × List D)) : Prop where
  ok : ∃ f fd, mg x = some (.ref f) ∧ PySem.W.keepIn K (.ref f) = true ∧ Binds K fd ps [] ∧ FnOk P w K mg base (L2.CX P w) k f fd ps (spM K mg ps.length bs F)
theorem CallOkM.up {P : Program} {w : World} {K : PySem.W.Frag} {mg : Str → Option Value} {base : Heap} {j k : Nat} {x : Str} {ps : List Str} {bs : List Nat} {F : List D → Res (D × List D)} (h : CallOkM P w K mg base j x ps bs F) (hjk : j ≤ k) : CallOkM P w K mg base k x ps bs F :=
  let ⟨f, fd, h1, h2, h3, h4⟩ := h.ok
  ⟨f, fd, h1, h2, h3, h4.mono hjk⟩
/-- the names at the start, those at bs lent -/
def envMa (bs : List Nat) : Nat → List D → Env
  | _, [] => []
  | k, d :: r => some (d, bs.elem k) :: envMa bs (k + 1) r
end DL

/-! calls of such defs: what is written, some of it lent -/
namespace DL
open PySem PySem.Spec PyProof.Rows L2
/-- what is handed over: a value, the list or dict of a name of one's own, a new list or dict -/
inductive MA where
  | val (d : D)
  | own (i : Nat)
  | new (d : D)
def RelM (K : PySem.W.Frag) (H G : Hp) (σ : L2.St) : List MA → List V → Prop
  | [], vs => vs = []
  | .val d :: r, vs => ∃ v l, vs = v :: l ∧ Rep K G d v ∧ RelM K H G σ r l
  | .own i :: r, vs => ∃ v l, vs = v :: l ∧ σ[i]? = some (some v) ∧ RelM K H G σ r l
  | .new d :: r, vs => ∃ a l, vs = .ref a :: l ∧ G a = none ∧ OwnC K H G d a ∧ RelM K H G σ r l
section
variable (K : PySem.W.Frag) (mg : Str → Option Value) (W : WX) (A : Nat → Prop)
end
section
variable {X : Cx} {W : WX} {A : Nat → Prop} {a : Expr} {es : List Expr} {H0 : Bas} {G0 : Hp} {al : List Nat} {pos p : Pos}
end
end DL

/-! the call itself -/
namespace DL
open PySem PySem.Spec PyProof.Rows L2
theorem RelM.length {K : PySem.W.Frag} {H G : Hp} {σ : L2.St} : ∀ {l : List MA} {vs : List V}, RelM K H G σ l vs → vs.length = l.length
  | [], _, h => by rw [show _ = [] from h]; rfl
  | .val _ :: _, _, ⟨v, r, e, _, h⟩ => by rw [e, List.length_cons, List.length_cons, RelM.length h]
  | .own _ :: _, _, ⟨v, r, e, _, h⟩ => by rw [e, List.length_cons, List.length_cons, RelM.length h]
  | .new _ :: _, _, ⟨v, r, e, _, _, h⟩ => by rw [e, List.length_cons, List.length_cons, RelM.length h]
/-- what is so of a thing handed over -/
def AtM (K : PySem.W.Frag) (H G : Hp) (σ : L2.St) : MA → V → Prop
  | .val d, v => Rep K G d v
  | .own i, v => σ[i]? = some (some v)
  | .new d, v => ∃ a, v = .ref a ∧ G a = none ∧ OwnC K H G d a
theorem RelM.at {K : PySem.W.Frag} {H G : Hp} {σ : L2.St} : ∀ {l : List MA} {vs : List V} {k : Nat} {z : MA}, RelM K H G σ l vs → l[k]? = some z → ∃ v, vs[k]? = some v ∧ AtM K H G σ z v
  | .val d :: _, _, 0, _, ⟨v, r, e, h1, _⟩, h => by cases h; exact ⟨v, by rw [e]; rfl, h1⟩
  | .own i :: _, _, 0, _, ⟨v, r, e, h1, _⟩, h => by cases h; exact ⟨v, by rw [e]; rfl, h1⟩
  | .new i :: _, _, 0, _, ⟨v, r, e, h1, h2, _⟩, h => by cases h; exact ⟨.ref v, by rw [e]; rfl, v, rfl, h1, h2⟩
  | .val _ :: l, _, k + 1, z, ⟨v, r, e, _, h2⟩, h => by
    obtain ⟨w, h3, h4⟩ := RelM.at (k := k) (z := z) h2 (by simpa using h)
    exact ⟨w, by rw [e]; simpa using h3, h4⟩
  | .own _ :: l, _, k + 1, z, ⟨v, r, e, _, h2⟩, h => by
    obtain ⟨w, h3, h4⟩ := RelM.at (k := k) (z := z) h2 (by simpa using h)
    exact ⟨w, by rw [e]; simpa using h3, h4⟩
  | .new _ :: l, _, k + 1, z, ⟨v, r, e, _, _, h2⟩, h => by
    obtain ⟨w, h3, h4⟩ := RelM.at (k := k) (z := z) h2 (by simpa using h)
    exact ⟨w, by rw [e]; simpa using h3, h4⟩
section
variable {K : PySem.W.Frag} {H0 : Bas} {G0 H G : Hp} {σ : L2.St}
end
end DL

/-! statements that call a def that is lent lists and dicts -/
namespace DL
open PySem PySem.Spec PyProof.Rows L2
section
variable {X : Cx} {W : WX} {H0 : Bas} {G0 : Hp} {al : List Nat} {pos : Pos}
end
end DL

/-! defs that are lent things and call themselves; a, b = f(..) of such a def -/
namespace DL
open PySem PySem.Spec PyProof.Rows L2
section
variable {X : Cx} {W : WX} {H0 : Bas} {G0 : Hp} {al : List Nat} {pos : Pos}
end
end DL

/-! d.update(e) of dicts with number or text keys; statements that are never reached -/
namespace DL
open PySem PySem.Spec PyProof.Rows L2
section
variable {X : Cx}
end
section
variable {X : Cx} {W : WX} {H0 : Bas} {G0 : Hp} {al : List Nat} {ex : Expr} {es : List Expr} {pos apos cpos p1 p2 : Pos}
end
end DL

/-! a text walked, sign by sign -/
namespace DL
open PySem PySem.Spec PyProof.Rows L2
section
variable {X : Cx} {W : WX} {A : Nat → Prop} {ex : Expr}
end
/-! a list, a tuple or a text -/
section
variable {X : Cx} {W : WX} {A : Nat → Prop} {ex : Expr}
end
end DL

/-! tuples without a dict of their own: tuple(l), t + u, t[a:b], t.index(x), t.count(x), dict(t) -/
namespace DL
open PySem PySem.Spec PyProof.Rows L2
open PySem.Builtin.Int (intBits)
/-- its object -/
theorem PlT.obj {X : Cx} {pins : List (Addr × Obj)} {σ : L2.St} {H : Hp} {s : Shared} {a : Addr} {xs : List V} (I : Inv X pins σ H s) (h : PlT X.K H a xs) :
    ∃ (its : List Value) (o : Obj) (n : Nat), Vals xs its ∧ s.heap.get? a = some o ∧ o.cls = .type "tuple" ∧ o.dict = none ∧ o.data = .seq its.toArray n ∧ xs.length ≤ sizeLine := by
  rcases h with ⟨o, h, d⟩ | ⟨o, its, n, hk, hc, hd, hs, hz, r⟩
  · obtain ⟨e, z, its, r, o', e', c, n, q⟩ := I.hok a _ h
    rw [e] at e'; cases e'
    exact ⟨its, o, n, r, e, c, d, q, z⟩
  · refine ⟨its.toList, o, n, r, I.kIn a o hk, hc, hd, by simpa using hs, ?_⟩
    have e := r.length
    simp only [Array.length_toList] at e
    omega
section
variable {X : Cx} {W : WX} {A : Nat → Prop}
/-! ### tuple(l) -/
/-! ### t + u -/
/-! ### t[a:b] -/
variable {a b e o : Expr} {lo hi : Option Expr} {es : List Expr} {pos p2 apos cpos : Pos}
/-! ### methods -/
/-! ### dict(t), t a tuple of pairs of a row and a value, the rows unlike -/
/-- a pair: its address, the row's address, the row, the value -/
abbrev Pr4 := Addr × Addr × List Int × V
theorem paired_get {α β : Type} {F : α → β → Prop} : ∀ {l : List α} {r : List β}, Paired F l r → ∀ {i : Nat} {b : β}, r[i]? = some b → ∃ a, l[i]? = some a ∧ F a b
  | _, _, .nil, i, b, h => by simp at h
  | _, _, .cons (a := a) x t, 0, b, h => by cases h; exact ⟨a, rfl, x⟩
  | _, _, .cons (a := a) x t, i + 1, b, h => by
    obtain ⟨c, h1, h2⟩ := paired_get t (i := i) (b := b) (by simpa using h)
    exact ⟨c, by simpa using h1, h2⟩
theorem vals_refs : ∀ {ps : List Pr4} {its : List Value}, Vals (ps.map fun p => V.ref p.1) its → its = ps.map fun p => Value.ref p.1
  | [], _, h => by cases h; rfl
  | p :: ps, _, h => by
    cases h with
    | cons r t =>
      obtain rfl := r
      rw [vals_refs t]; rfl
end
end DL

/-! a written tuple, known to have no dict of its own -/
namespace DL
open PySem PySem.Spec PyProof.Rows L2
open PySem.Builtin.Int (intBits)
section
variable {X : Cx} {W : WX} {A : Nat → Prop} {pos : Pos}
def eTupP (fs : DL.Env → Res (List D)) : DL.Env → Res D := fun e => (fs e).bind fun ds => .ok (.con ds)
@[simp] theorem eTupP_app {fs : DL.Env → Res (List D)} {e : DL.Env} : eTupP fs e = (fs e).bind fun ds => .ok (.con ds) := Eq.trans rfl rfl
end
end DL

/-! a def that gives back a new list or dict of its own -/
namespace DL
open PySem PySem.Spec PyProof.Rows L2
/-- such a def's promise -/
def spN (K : PySem.W.Frag) (mg : Str → Option Value) (n : Nat) (F : List D → Res D) : Sp := fun vs H Q E => vs.length = n ∧ ∃ ds G, Sub G H ∧ RepL K G ds vs ∧ PostG K mg E H G (F ds) fun d H' G' => ∀ a, H a = none → G' a = none → OwnC K H' G' d a → Q (.ref a) H'
structure CallOkN (P : Program) (w : World) (K : PySem.W.Frag) (mg : Str → Option Value) (base : Heap) (k : Nat) (x : Str) (ps : List Str) (F : List D → Res D) : Prop where
  ok : ∃ f fd, mg x = some (.ref f) ∧ PySem.W.keepIn K (.ref f) = true ∧ Binds K fd ps [] ∧ FnOk P w K mg base (L2.CX P w) k f fd ps (spN K mg ps.length F)
theorem CallOkN.up {P : Program} {w : World} {K : PySem.W.Frag} {mg : Str → Option Value} {base : Heap} {j k : Nat} {x : Str} {ps : List Str} {F : List D → Res D} (h : CallOkN P w K mg base j x ps F) (hjk : j ≤ k) : CallOkN P w K mg base k x ps F :=
  let ⟨f, fd, h1, h2, h3, h4⟩ := h.ok
  ⟨f, fd, h1, h2, h3, h4.mono hjk⟩
section
variable {X : Cx} {W : WX} {ex : Expr} {es : List Expr} {pos : Pos}
end
end DL

/-! texts of numbers, put together and taken apart -/
namespace DL
open PySem PySem.Spec PyProof.Rows L2
/-! ### str(number) -/
/-! ### int(text) -/
/-! ### texts in a row -/
/-! ### sep.join(texts) -/
section
variable {X : Cx} {W : WX} {A : Nat → Prop} {o ex : Expr} {apos pos : Pos}
/-! ### f-strings -/
/-- the parts' judgements -/
inductive DJ (X : Cx) (W : WX) (A : Nat → Prop) : List Expr → List (DL.Env → Res D) → Prop where
  | nil : DJ X W A [] []
  | cons {e : Expr} {f : DL.Env → Res D} {es : List Expr} {fs : List (DL.Env → Res D)} (h : DE X W A e f) (r : DJ X W A es fs) : DJ X W A (e :: es) (f :: fs)
end
end DL
namespace L2
open PySem PySem.Spec PyProof.Rows
section
variable {X : Cx} {o : Expr} {apos mpos : Pos} {td : TE}
end
end L2
namespace DL
open PySem PySem.Spec PyProof.Rows L2
section
variable {X : Cx} {W : WX} {A : Nat → Prop} {o : Expr} {apos mpos p pos : Pos}
/-! ### x.split(sep) -/
end
end DL

/-! several except clauses, each with a name for the error -/
namespace L2
open PySem PySem.Spec PyProof.Rows
/-- what such clauses wish of an exception of the body, one after the other -/
def wAsL (K : PySem.W.Frag) (Wout : WX) (D : Ends) : List (Value × Nat × (Addr → Value → Option Addr → TS)) → WX
  | [] => Wout
  | (c, i, ts) :: r => fun cls d σ H => ∃ b, PySem.W.exmOne K cls c = some b ∧
      (b = true → ∀ a, H a = none → ts a cls d { nx := fun σ' H' => D.nx (σ'.set i none) H', rt := D.rt, bk := fun σ' H' => D.bk (σ'.set i none) H', ct := fun σ' H' => D.ct (σ'.set i none) H' } (σ.set i (some (.ref a))) H) ∧
      (b = false → wAsL K Wout D r cls d σ H)
inductive HdAs (X : Cx) : List ExceptHandler → List (Value × Nat × (Addr → Value → Option Addr → TS)) → Prop
  | nil : HdAs X [] []
  | cons {x n : Str} {c : Value} {i : Nat} {ts : Addr → Value → Option Addr → TS} {b₀ : Stmt} {suite : List Stmt} {np pos' : Pos} {hds : List ExceptHandler} {l : List (Value × Nat × (Addr → Value → Option Addr → TS))} (hc : Names X x c)
      (hi : X.N[i]? = some n) (hln : X.env.kindOf n = some .local)
      (hsu : ∀ (a : Addr) (oe : Obj) (cls : Value) (d : Option Addr) (pn : List (Addr × Obj)), Zc cls d oe → (∃ vs, oe.data = .fields vs) → PSs (X.suite a ((a, oe) :: pn)) (b₀ :: suite) (ts a cls d)) (r : HdAs X hds l) :
      HdAs X (.ExceptHandler (some (.Name x np)) (some n) (b₀ :: suite) pos' :: hds) ((c, i, ts) :: l)
section
variable {X : Cx} {body : List Stmt} {h₀ : ExceptHandler} {hds : List ExceptHandler} {l : List (Value × Nat × (Addr → Value → Option Addr → TS))} {pos : Pos} {tb : WX → TS} {Wout : WX}
end
end L2
namespace DL
open PySem PySem.Spec PyProof.Rows L2
/-- a clause: the slot of its name, what it does at each class, its suite -/
abbrev Hdl := Nat × (String → Option Bool) × (Addr → String → DL.Env → Out)
noncomputable def hdlL (c : String) (fs : List (D × D)) (e : DL.Env) : List Hdl → Out
  | [] => .ex c fs e
  | (i, h, f) :: r => match h c with
    | some true => if fs = [] then unif fun a => clrN i (f a c (e.set i (some (.obj (.ref a), false)))) else .bad
    | some false => hdlL c fs e r
    | none => .bad
section
variable {X : Cx} {W : WX} {pos : Pos} {H0 : Bas} {G0 : Hp}
inductive HdD (X : Cx) (H0 : Bas) (G0 : Hp) : List ExceptHandler → List Hdl → Prop
  | nil : HdD X H0 G0 [] []
  | cons {i : Nat} {x n : Str} {c : Value} {suite : List Stmt} {b₀ : Stmt} {np pos' : Pos} {h : String → Option Bool} {fs : Addr → String → DL.Env → Out} {hds : List ExceptHandler} {l : List Hdl} (hi : X.N[i]? = some n) (hln : X.env.kindOf n = some .local) (hc : Names X x c) (hh : Clause X.K X.mg c h)
    (hsu : ∀ (a : Addr) (oe : Obj) (cls : Value) (pn : List (Addr × Obj)) (k : String), Zc cls none oe → (∃ vs, oe.data = .fields vs) → X.mg (Str.ofString k) = some cls → DSs (X.suite a ((a, oe) :: pn)) WF H0 G0 (b₀ :: suite) (fs a k)) (r : HdD X H0 G0 hds l) :
    HdD X H0 G0 (.ExceptHandler (some (.Name x np)) (some n) (b₀ :: suite) pos' :: hds) ((i, h, fs) :: l)
theorem HdD.as {hds : List ExceptHandler} {l : List Hdl} (hd : HdD X H0 G0 hds l) : ∃ l', HdAs X hds l' ∧ ∀ (Z : Ends) (c : String) (fs : List (D × D)) (e : DL.Env),
    SPost X.K X.mg W H0 G0 (hdlL c fs e l) Z → ∀ (cls : Value) (o : Option Addr) (σ' : L2.St) (H' G' H2 : Hp), StOk X.K H0 G0 σ' e H' G' → Sub H' H2 → IsExc X.K X.mg c fs cls o H' H2 → wAsL X.K W Z l' cls o σ' H2 := by
  induction hd with
  | nil => exact ⟨[], .nil, fun Z c fs e q cls o σ' H' G' H2 S' s2 ix => q cls o σ' H' G' H2 S' s2 ix⟩
  | @cons i x n cv suite b₀ np pos' h fs hds l hi hln hc hh hsu r ih =>
    obtain ⟨l', hl, hq⟩ := ih
    refine ⟨(cv, i, fun a cls d Z σ H => ∃ k, X.mg (Str.ofString k) = some cls ∧ d = none ∧ tS X.K X.mg WF H0 G0 (fs a k) Z σ H) :: l', .cons hc hi hln (fun a oe cls d pn hz hd => ⟨fun pins s σ H Z I ⟨k, hk, hn, t⟩ => ?_⟩) hl, fun Z k fs' e' q cls o σ' H' G' H2 S' s2 ix => ?_⟩
    · subst hn
      exact (hsu a oe cls pn k hz hd hk).run pins s σ H Z I t
    · unfold hdlL at q
      cases hk : h k with
      | none => rw [hk] at q; exact q.elim
      | some b =>
        refine ⟨b, hh k b cls hk ix.1, fun eb a _ => ?_, fun eb => ?_⟩
        · subst eb
          rw [hk] at q
          dsimp only at q
          by_cases hfs : fs' = []
          · rw [if_pos hfs] at q
            have ho : o = none := by
              cases o with
              | none => rfl
              | some d => exact absurd hfs ix.2.1
            subst ho
            have S2 : StOk X.K H0 G0 σ' e' H2 G' := ⟨⟨S'.ext.hh.trans s2, S'.ext.gg, S'.ext.gh.trans s2, S'.ext.new⟩, S'.len, S'.sh, fun i d h => let ⟨a, q1, q2, q3, q4⟩ := S'.ow i d h; ⟨a, q1, q2, q3, q4.mono s2 (Sub.refl _)⟩, S'.ne, S'.pn⟩
            have S3 := S2.set i (d := .obj (.ref a)) (v := .ref a) rfl
            refine ⟨k, ix.1, rfl, _, G', S3, ?_⟩
            have nb : unif (fun a => clrN i (fs a k (e'.set i (some (.obj (.ref a), false))))) ≠ .bad := fun z => by rw [z] at q; exact q
            rw [unif_at nb a] at q
            cases hq : fs a k (e'.set i (some (.obj (.ref a), false))) with
            | nx e2 => rw [hq] at q; exact fun σ5 H5 G5 S5 => q _ H5 G5 (S5.clear i)
            | bk e2 => rw [hq] at q; exact fun σ5 H5 G5 S5 => q _ H5 G5 (S5.clear i)
            | ct e2 => rw [hq] at q; exact fun σ5 H5 G5 S5 => q _ H5 G5 (S5.clear i)
            | rt d => rw [hq] at q; exact q
            | ro d => rw [hq] at q; exact q
            | rm d e2 => rw [hq] at q; exact fun v σ5 H5 G5 S5 r5 => q v _ H5 G5 (S5.clear i) r5
            | ex c' f' e2 => rw [hq] at q; exact q.elim
            | bad => rw [hq] at q; exact q.elim
          · rw [if_neg hfs] at q; exact q.elim
        · subst eb
          rw [hk] at q
          exact hq Z k fs' e' q cls o σ' H' G' H2 S' s2 ix
end
end DL

/-! a loop over a list of one's own that is kept one's own: through the loop its name stands for the bare value -/
namespace DL
open PySem PySem.Spec PyProof.Rows L2
mutual
/-- numbers, texts, truth values, nothing, and tuples of these -/
def D.tfl : D → Bool
  | .non => true
  | .bl _ => true
  | .int _ => true
  | .str _ => true
  | .tup ds => D.tfls ds
  | _ => false
def D.tfls : List D → Bool
  | [] => true
  | d :: r => D.tfl d && D.tfls r
end
/-- the part G without what stands at a -/
def delA (G : Hp) (a : Addr) : Hp := fun b => if b = a then none else G b
theorem delA_ne {G : Hp} {a b : Addr} (h : b ≠ a) : delA G a b = G b := if_neg h
theorem delA_at {G : Hp} {a : Addr} : delA G a a = none := if_pos rfl
theorem delA_sub (G : Hp) (a : Addr) : Sub (delA G a) G := fun b o e => by
  by_cases h : b = a
  · subst h; rw [delA_at] at e; cases e
  · rw [delA_ne h] at e; exact e
mutual
theorem Rep.del {K : PySem.W.Frag} {G : Hp} {a : Addr} (ha : ∀ vs, G a ≠ some (.tup vs)) : ∀ {d : D} {v : V}, d.tfl = true → Rep K G d v → Rep K (delA G a) d v
  | .non, _, _, e => e
  | .bl _, _, _, e => e
  | .int _, _, _, e => e
  | .str _, _, _, e => e
  | .tup ds, _, f, ⟨t, vs, e, s, r⟩ => ⟨t, vs, e, by rw [delA_ne (fun z => ha vs (by rw [← z]; exact s))]; exact s, RepL.del ha (show D.tfls ds = true from f) r⟩
  | .obj _, _, f, _ => by cases f
  | .err _ _, _, f, _ => by cases f
  | .exn _ _ _, _, f, _ => by cases f
  | .con _, _, f, _ => by cases f
  | .lst _, _, f, _ => by cases f
  | .dct _ _, _, f, _ => by cases f
theorem RepL.del {K : PySem.W.Frag} {G : Hp} {a : Addr} (ha : ∀ vs, G a ≠ some (.tup vs)) : ∀ {ds : List D} {vs : List V}, D.tfls ds = true → RepL K G ds vs → RepL K (delA G a) ds vs
  | [], _, _, e => e
  | d :: r, _, f, ⟨v, w, e, x, y⟩ => ⟨v, w, e, Rep.del ha (Bool.and_eq_true_iff.mp f).1 x, RepL.del ha (Bool.and_eq_true_iff.mp f).2 y⟩
end
theorem Ext.del {H G H' G' : Hp} {a : Addr} {o : HO} (g : G a = none) (x : Ext H (upd G a o) H' G') : Ext H G H' (delA G' a) := by
  refine ⟨x.hh, fun b u e => ?_, (delA_sub G' a).trans x.gh, fun b z => ?_⟩
  · have hb : b ≠ a := fun z => by rw [z, g] at e; cases e
    rw [delA_ne hb]
    exact x.gg b u (by rw [upd_ne hb]; exact e)
  · by_cases hb : b = a
    · subst hb; exact absurd delA_at z
    · rw [delA_ne hb] at z
      rcases x.new b z with h | h
      · rw [upd_ne hb] at h; exact .inl h
      · exact .inr h
section
variable {K : PySem.W.Frag} {H0 : Bas} {G0 H G : Hp} {σ : L2.St} {e : Env}
end
section
variable {X : Cx} {W : WX} {H0 : Bas} {G0 : Hp} {pos : Pos}
end
end DL

namespace DL
open PySem PySem.Spec PyProof.Rows L2
open PySem.Builtin.Int (intBits)

/-- a bound that range takes -/
def Rg (n : Int) : Prop := -(2 ^ 62) ≤ n ∧ n < 2 ^ 62
theorem Rg.of {n : Int} (h : -1000000000 ≤ n) (k : n ≤ 1000000000) : Rg n := ⟨by omega, by omega⟩
open Classical in
noncomputable def range1D : D → Res (List D) := fun d => match d with
  | .int n => if Rg n then .ok (rangeD 0 n) else .bad
  | _ => .bad
@[simp] theorem range1D_int (n : Int) (h : Rg n) : range1D (.int n) = .ok (rangeD 0 n) := if_pos h
theorem iRange1_is (f : DL.Env → Res D) (e : DL.Env) : iRange1 f e = (f e).bind range1D := by
  unfold iRange1
  congr 1
  funext d
  cases d with
  | int n =>
    dsimp only [range1D]
    by_cases h : Rg n
    · rw [if_pos (show -(2 ^ 62) ≤ n ∧ n < 2 ^ 62 from h), if_pos h]
    · rw [if_neg (show ¬ (-(2 ^ 62) ≤ n ∧ n < 2 ^ 62) from h), if_neg h]
  | _ => rfl
/-! ### a body's reckoning, step by step -/
section
variable (al : List Nat) (i : Nat) (e : DL.Env) (f fa fb fc : DL.Env → Res D) (ft fu : DL.Env → Res Bool) (g h : DL.Env → Out) (fs : DL.Env → Res (List D)) (d : D) (ds : List D) (op : D → D → Res D) (op1 : D → Res D)
@[simp] theorem eVarS_app : eVarS i e = (match e[i]? with | some (some (d, false)) => .ok d | _ => .bad) := Eq.trans rfl rfl
@[simp] theorem eVar_app : eVar i e = (match e[i]? with | some (some (d, _)) => .ok d | _ => .bad) := Eq.trans rfl rfl
@[simp] theorem eC_app : eC d e = .ok d := Eq.trans rfl rfl
@[simp] theorem eOp_app : eOp op fa fb e = (fa e).bind fun x => (fb e).bind fun y => op x y := Eq.trans rfl rfl
@[simp] theorem e1_app : e1 op1 f e = (f e).bind op1 := Eq.trans rfl rfl
@[simp] theorem eNeg_app : eNeg f e = (f e).bind fun x => (match x with | .int i => .ok (.int (-i)) | _ => .bad) := Eq.trans rfl rfl
@[simp] theorem eTup_app : eTup fs e = (fs e).bind fun ds => .ok (.tup ds) := Eq.trans rfl rfl
@[simp] theorem eLst_app : eLst fs e = (fs e).bind fun ds => .ok (.lst ds) := Eq.trans rfl rfl
@[simp] theorem aNil_app : aNil e = .ok [] := Eq.trans rfl rfl
@[simp] theorem aCons_app : aCons f fs e = (f e).bind fun d => (fs e).bind fun ds => .ok (d :: ds) := Eq.trans rfl rfl
@[simp] theorem eCall_app (F : List D → Res D) : eCall F fs e = (fs e).bind F := Eq.trans rfl rfl
@[simp] theorem eAnd_app : eAnd fa fb e = (fa e).bind fun x => (D.asB x).bind fun b => if b = true then fb e else .ok (.bl false) := Eq.trans rfl rfl
@[simp] theorem eOr_app : eOr fa fb e = (fa e).bind fun x => (D.asB x).bind fun b => if b = true then .ok (.bl true) else fb e := Eq.trans rfl rfl
@[simp] theorem eNot_app : eNot f e = (f e).bind fun x => (D.asB x).bind fun b => .ok (.bl (!b)) := Eq.trans rfl rfl
@[simp] theorem eIf_app : eIf ft fa fb e = (ft e).bind fun b => if b = true then fa e else fb e := Eq.trans rfl rfl
@[simp] theorem bTest_app : bTest op fa fb e = (fa e).bind fun x => (fb e).bind fun y => (op x y).bind D.asB := Eq.trans rfl rfl
@[simp] theorem bTruth_app : bTruth f e = (f e).bind D.truth := Eq.trans rfl rfl
@[simp] theorem bAnd_app : bAnd ft fu e = (ft e).bind fun b => if b = true then fu e else .ok false := Eq.trans rfl rfl
@[simp] theorem bOr_app : bOr ft fu e = (ft e).bind fun b => if b = true then .ok true else fu e := Eq.trans rfl rfl
@[simp] theorem bNot_app : bNot ft e = (ft e).bind fun b => .ok (!b) := Eq.trans rfl rfl
@[simp] theorem bVal_app : bVal f e = (f e).bind D.asB := Eq.trans rfl rfl
@[simp] theorem oNone_app : oNone e = .ok none := Eq.trans rfl rfl
@[simp] theorem oSome_app : oSome f e = (f e).bind fun d => (match d with | .int i => .ok (some i) | _ => .bad) := Eq.trans rfl rfl
@[simp] theorem eCut_app (fl fh : DL.Env → Res (Option Int)) : eCut f fl fh e = (f e).bind fun d => (fl e).bind fun lo => (fh e).bind fun hi => dCut lo hi d := Eq.trans rfl rfl
@[simp] theorem iSeq_app : iSeq f e = (f e).bind fun d => (match d with | .lst xs => .ok xs | .tup xs => .ok xs | .con xs => .ok xs | _ => .bad) := Eq.trans rfl rfl
@[simp] theorem iRange1_app : iRange1 f e = (f e).bind range1D := iRange1_is f e
@[simp] theorem iRange3_app : iRange3 fa fb fc e = (fa e).bind fun x => (fb e).bind fun y => (fc e).bind fun z => r3D x y z := Eq.trans rfl rfl
@[simp] theorem r3D_int (i j c : Int) : r3D (.int i) (.int j) (.int c) = rg3 i j c := Eq.trans rfl rfl
@[simp] theorem sTry_app (hh : String → Option Bool) : sTry hh g h e = (match g e with | .ex c fs' e' => (match hh c with | some true => noEx (h e') | some false => .ex c fs' e' | none => .bad) | r => r) := Eq.trans rfl rfl
@[simp] theorem sTryAs_app (hh : String → Option Bool) (fs : Addr → String → DL.Env → Out) : sTryAs i hh g fs e = (match g e with | .ex c fs' e' => (match hh c with | some true => if fs' = [] then unif (fun a => clrN i (fs a c (e'.set i (some (.obj (.ref a), false))))) else .bad | some false => .ex c fs' e' | none => .bad) | r => r) := Eq.trans rfl rfl
@[simp] theorem clrN_nx : clrN i (.nx e) = .nx (e.set i none) := Eq.trans rfl rfl
@[simp] theorem clrN_rt : clrN i (.rt d) = .rt d := Eq.trans rfl rfl
@[simp] theorem clrN_ro : clrN i (.ro d) = .ro d := Eq.trans rfl rfl
@[simp] theorem eIsE_app (a : Addr) (o : Option Bool) : eIsE i a o e = (match e[i]? with | some (some (.obj (.ref a'), false)) => if a' = a then (match o with | some b => .ok (.bl b) | none => .bad) else .bad | _ => .bad) := Eq.trans rfl rfl
@[simp] theorem dStr_bl (b : Bool) : dStr (.bl b) = .ok (.str (if b = true then "True" else "False")) := Eq.trans rfl rfl
@[simp] theorem noEx_nx : noEx (.nx e) = .nx e := Eq.trans rfl rfl
@[simp] theorem noEx_rt : noEx (.rt d) = .rt d := Eq.trans rfl rfl
@[simp] theorem noEx_ro : noEx (.ro d) = .ro d := Eq.trans rfl rfl
@[simp] theorem sRetO_app : sRetO i e = (match e[i]? with | some (some (d, true)) => .ro d | some (some (d, false)) => .rt d | _ => .bad) := Eq.trans rfl rfl
@[simp] theorem sRetF_app : sRetF al f e = (match f e with | .ok d => .ro d | .exc c fs => .ex c fs (fz al e) | .bad => .bad) := by unfold sRetF sE; cases f e <;> rfl
@[simp] theorem sSkip_app : sSkip e = .nx e := Eq.trans rfl rfl
@[simp] theorem sBreak_app : sBreak e = .bk e := Eq.trans rfl rfl
@[simp] theorem sCont_app : sCont e = .ct e := Eq.trans rfl rfl
@[simp] theorem sRetN_app : sRetN e = .rt .non := Eq.trans rfl rfl
@[simp] theorem sRaise_app (c : String) : sRaise c e = .ex c [] e := Eq.trans rfl rfl
@[simp] theorem sSeq_app : sSeq g h e = (match g e with | .nx e' => h e' | r => r) := Eq.trans rfl rfl
@[simp] theorem sIf_app : sIf al ft g h e = (match ft e with | .ok b => if b = true then g (fz al e) else h (fz al e) | .exc c fs => .ex c fs (fz al e) | .bad => .bad) := by unfold sIf sE; cases ft e <;> rfl
@[simp] theorem sRet_app : sRet al f e = (match f e with | .ok d => .rt d | .exc c fs => .ex c fs (fz al e) | .bad => .bad) := by unfold sRet sE; cases f e <;> rfl
@[simp] theorem sSet_app : sSet al i f e = (match f e with | .ok d => .nx ((fz al e).set i (some (d, false))) | .exc c fs => .ex c fs (fz al e) | .bad => .bad) := by unfold sSet sE; cases f e <;> rfl
@[simp] theorem sSetF_app : sSetF al i f e = (match f e with | .ok d => .nx ((fz al e).set i (some (d, true))) | .exc c fs => .ex c fs (fz al e) | .bad => .bad) := by unfold sSetF sE; cases f e <;> rfl
@[simp] theorem sPar_app (j : Nat) : sPar al i j fs e = (match fs e with | .ok ds => (match ds with | [x, y] => .nx (((fz al e).set i (some (x, false))).set j (some (y, false))) | _ => .bad) | .exc c fs => .ex c fs (fz al e) | .bad => .bad) := by unfold sPar sE; cases fs e <;> rfl
@[simp] theorem sFor_app (p : Pat) : sFor al p fs g e = (match fs e with | .ok ds => turns p g ds (fz al e) | .exc c fs => .ex c fs (fz al e) | .bad => .bad) := by unfold sFor sE; cases fs e <;> rfl
@[simp] theorem fz_cons (r : List Nat) : fz (i :: r) e = fz r (unown i e) := Eq.trans rfl rfl
@[simp] theorem unown_app : unown i e = (match e[i]? with | some (some (d, true)) => e.set i (some (d, false)) | _ => e) := Eq.trans rfl rfl
@[simp] theorem bindnm_app : Pat.bind (.nm i) d e = .ok (e.set i (some (d, false))) := Eq.trans rfl rfl
@[simp] theorem bindtp_app (ps : List Pat) : Pat.bind (.tp ps) (.tup ds) e = Pat.binds ps ds e := Eq.trans rfl rfl
@[simp] theorem binds_nil : Pat.binds [] [] e = .ok e := Eq.trans rfl rfl
@[simp] theorem binds_cons (p : Pat) (ps : List Pat) : Pat.binds (p :: ps) (d :: ds) e = (Pat.bind p d e).bind fun e' => Pat.binds ps ds e' := Eq.trans rfl rfl
@[simp] theorem asB_bl (b : Bool) : D.asB (.bl b) = .ok b := Eq.trans rfl rfl
@[simp] theorem dLt_int (i j : Int) : dLt (.int i) (.int j) = .ok (.bl (decide (i < j))) := Eq.trans rfl rfl
@[simp] theorem dLe_int (i j : Int) : dLe (.int i) (.int j) = .ok (.bl (decide (i ≤ j))) := Eq.trans rfl rfl
@[simp] theorem dGt_int (i j : Int) : dGt (.int i) (.int j) = .ok (.bl (decide (j < i))) := Eq.trans rfl rfl
@[simp] theorem dGe_int (i j : Int) : dGe (.int i) (.int j) = .ok (.bl (decide (j ≤ i))) := Eq.trans rfl rfl
@[simp] theorem dAdd_int (i j : Int) : dAdd (.int i) (.int j) = .ok (.int (i + j)) := Eq.trans rfl rfl
@[simp] theorem dSub_int (i j : Int) : dSub (.int i) (.int j) = .ok (.int (i - j)) := Eq.trans rfl rfl
@[simp] theorem dMod_int (i j : Int) : dMod (.int i) (.int j) = (if j ≠ 0 then .ok (.int (i.fmod j)) else .bad) := Eq.trans rfl rfl
@[simp] theorem dLen_lst : dLen (.lst ds) = .ok (.int ds.length) := Eq.trans rfl rfl
@[simp] theorem dLen_tup : dLen (.tup ds) = .ok (.int ds.length) := Eq.trans rfl rfl
@[simp] theorem dLen_con : dLen (.con ds) = .ok (.int ds.length) := Eq.trans rfl rfl
@[simp] theorem dLen_dct (t : Bool) (kvs : List (D × D)) : dLen (.dct t kvs) = .ok (.int kvs.length) := Eq.trans rfl rfl
@[simp] theorem isInt_int (i : Int) : isInt (.int i) = .ok (.bl true) := Eq.trans rfl rfl
@[simp] theorem isBool_int (i : Int) : isBool (.int i) = .ok (.bl false) := Eq.trans rfl rfl
@[simp] theorem isTup_tup : isTup (.tup ds) = .ok (.bl true) := Eq.trans rfl rfl
@[simp] theorem dTuple_lst : dTuple (.lst ds) = .ok (.tup ds) := Eq.trans rfl rfl
@[simp] theorem dTuple_tup : dTuple (.tup ds) = .ok (.tup ds) := Eq.trans rfl rfl
@[simp] theorem dList_lst : dList (.lst ds) = .ok (.lst ds) := Eq.trans rfl rfl
@[simp] theorem dList_tup : dList (.tup ds) = .ok (.lst ds) := Eq.trans rfl rfl
@[simp] theorem dMax_int (i j : Int) : dMax (.int i) (.int j) = .ok (.int (if i < j then j else i)) := Eq.trans rfl rfl
@[simp] theorem dMin_int (i j : Int) : dMin (.int i) (.int j) = .ok (.int (if j < i then j else i)) := Eq.trans rfl rfl
@[simp] theorem sMut_app (gm : List D → List D → Option (List D)) : sMut al i gm fs e = ownL i (fz al e) (fun xs => sE al fs (fun ds e' => match gm xs ds with
    | some ys => .nx (e'.set i (some (.lst ys, true)))
    | none => .bad) e) := Eq.trans rfl rfl
end
@[simp] theorem ownL_app (i : Nat) (e : DL.Env) (k : List D → Out) : ownL i e k = (match e[i]? with | some (some (.lst xs, true)) => k xs | _ => .bad) := Eq.trans rfl rfl
@[simp] theorem sE_app {α : Type} (al : List Nat) (e : DL.Env) (fa : DL.Env → Res α) (k : α → DL.Env → Out) : sE al fa k e = (match fa e with | .ok a => k a (fz al e) | .exc c fs => .ex c fs (fz al e) | .bad => .bad) := Eq.trans rfl rfl
/-! equality -/
@[simp] theorem dIx_tup0 (a : D) (r : List D) : dIx (.tup (a :: r)) (.int 0) = .ok a := by simp [dIx, atI, ixN]
@[simp] theorem dIx_tup1 (a b : D) (r : List D) : dIx (.tup (a :: b :: r)) (.int 1) = .ok b := by
  have : (1 : Int) < r.length + 1 + 1 := by omega
  simp [dIx, atI, ixN, this]
theorem ixN_of {n : Nat} {i : Int} (h : -(n : Int) ≤ i) (k : i < n) : ∃ j : Nat, ixN n i = some j ∧ j < n := by
  unfold ixN
  by_cases c : 0 ≤ i
  · exact ⟨i.toNat, by rw [if_pos c, if_pos k], by omega⟩
  · exact ⟨(i + n).toNat, by rw [if_neg c, if_pos h], by omega⟩
mutual
theorem eqv_self : ∀ (d : D) (n : Nat), d.pl n = true → PyData.eqv d.py d.py = true
  | .non, _, _ => rfl
  | .bl b, _, _ => by simp [D.py, PyData.eqv]
  | .int i, _, _ => by simp [D.py, PyData.eqv]
  | .str x, _, _ => by simp [D.py, PyData.eqv]
  | .obj _, _, h => by simp [D.pl] at h
  | .err _ _, _, h => by simp [D.pl] at h
  | .exn _ _ _, _, h => by simp [D.pl] at h
  | .dct _ _, _, h => by simp [D.pl] at h
  | .con xs, 0, h => by simp [D.pl] at h
  | .con xs, n + 1, h => by
    simp [D.py, PyData.eqv]
    exact eqvs_self xs n (by simpa [D.pl] using h)
  | .tup xs, 0, h => by simp [D.pl] at h
  | .lst xs, 0, h => by simp [D.pl] at h
  | .tup xs, n + 1, h => by
    simp [D.py, PyData.eqv]
    exact eqvs_self xs n (by simpa [D.pl] using h)
  | .lst xs, n + 1, h => by
    simp [D.py, PyData.eqv]
    exact eqvs_self xs n (by simpa [D.pl] using h)
theorem eqvs_self : ∀ (ds : List D) (n : Nat), D.pls ds n = true → PyData.eqvAll (D.pys ds) (D.pys ds) = true
  | [], _, _ => rfl
  | d :: r, n, h => by
    have h' : d.pl n = true ∧ D.pls r n = true := by simpa [D.pls] using h
    simp [D.pys, PyData.eqvAll]
    exact ⟨eqv_self d n h'.1, eqvs_self r n h'.2⟩
end
theorem pls_all {n : Nat} : ∀ {ds : List D}, (∀ d ∈ ds, d.pl n = true) → D.pls ds n = true
  | [], _ => rfl
  | d :: r, h => by
    rw [D.pls, h d List.mem_cons_self, pls_all fun x hx => h x (List.mem_cons_of_mem _ hx)]
    rfl
/-! ### sizes -/
/-- an integer of at most so many bits -/
def Sm (n : Nat) (i : Int) : Prop := i.natAbs < 2 ^ n
theorem Sm.mono {n m : Nat} {i : Int} (h : Sm n i) (k : n ≤ m) : Sm m i := Nat.lt_of_lt_of_le h (Nat.pow_le_pow_right (by decide) k)
theorem Sm.bits {n : Nat} {i : Int} : Sm n i ↔ intBits i ≤ n := by
  unfold Sm intBits
  by_cases h : i = 0
  · subst h; simp; exact Nat.two_pow_pos n
  · have h' : (i == 0) = false := by simpa using h
    rw [h']
    have : i.natAbs ≠ 0 := by omega
    rw [← Nat.log2_lt this]
    exact Iff.rfl
theorem Sm.add {n : Nat} {i j : Int} (h : Sm n i) (k : Sm n j) : Sm (n + 1) (i + j) := by
  unfold Sm at *
  rw [Nat.pow_succ]
  omega
theorem Sm.mul {n m : Nat} {i j : Int} (h : Sm n i) (k : Sm m j) : Sm (n + m) (i * j) := by
  unfold Sm at *
  rw [Int.natAbs_mul, Nat.pow_add]
  exact Nat.mul_lt_mul'' h k
theorem Sm.le {n : Nat} {i j : Int} (h : Sm n i) (k : j.natAbs ≤ i.natAbs) : Sm n j := Nat.lt_of_le_of_lt k h
theorem Sm.lg {n : Nat} {i : Int} (h : Sm n i) (k : n ≤ 8999) : i.natAbs.log2 < 9000 := by
  by_cases z : i.natAbs = 0
  · rw [z]; decide
  · rw [Nat.log2_lt z]
    exact Nat.lt_of_lt_of_le h (Nat.pow_le_pow_right (by decide) (by omega))
theorem Sm.two {n m : Nat} {i j : Int} (h : Sm n i) (k : Sm m j) (l : n + m ≤ big) : intBits i + intBits j ≤ big := Nat.le_trans (Nat.add_le_add (Sm.bits.mp h) (Sm.bits.mp k)) l
theorem dDiv_int {i j : Int} (h : j ≠ 0) (k : j.natAbs.log2 < 9000) : dDiv (.int i) (.int j) = .ok (.int (i.fdiv j)) := if_pos ⟨h, k⟩
@[simp] theorem dDiv_lit (i j : Int) (h : 0 < j) (k : j < 18446744073709551616) : dDiv (.int i) (.int j) = .ok (.int (i / j)) := by
  rw [dDiv_int (by omega) (Sm.lg (n := 64) (by unfold Sm; omega) (by decide)), Int.fdiv_eq_ediv_of_nonneg _ (by omega)]
@[simp high] theorem dMod_lit (i j : Int) (h : 0 < j) : dMod (.int i) (.int j) = .ok (.int (i % j)) := by
  rw [dMod_int, if_pos (by omega), Int.fmod_eq_emod_of_nonneg _ (by omega)]
theorem dPow_of {i j : Int} (h : 0 ≤ j ∧ (intBits i : Int) * j ≤ 2 ^ 27) : dPow (.int i) (.int j) = .ok (.int (i ^ j.toNat)) := if_pos h
@[simp] theorem pow_10_60 : dPow (.int 10) (.int 60) = .ok (.int (10 ^ 60)) := dPow_of (by decide +kernel)
@[simp] theorem pow_10_18 : dPow (.int 10) (.int 18) = .ok (.int (10 ^ 18)) := dPow_of (by decide +kernel)
@[simp] theorem pow_10_9 : dPow (.int 10) (.int 9) = .ok (.int (10 ^ 9)) := dPow_of (by decide +kernel)
@[simp] theorem pow_10_10 : dPow (.int 10) (.int 10) = .ok (.int (10 ^ 10)) := dPow_of (by decide +kernel)
/-! ### loops -/
@[simp] theorem isInt_bl (b : Bool) : isInt (.bl b) = .ok (.bl true) := Eq.trans rfl rfl
@[simp] theorem isInt_tup (ds : List D) : isInt (.tup ds) = .ok (.bl false) := Eq.trans rfl rfl
@[simp] theorem isInt_str (x : Str) : isInt (.str x) = .ok (.bl false) := Eq.trans rfl rfl
@[simp] theorem isInt_lst (ds : List D) : isInt (.lst ds) = .ok (.bl false) := Eq.trans rfl rfl
@[simp] theorem isInt_non  : isInt .non = .ok (.bl false) := Eq.trans rfl rfl
@[simp] theorem isBool_bl (b : Bool) : isBool (.bl b) = .ok (.bl true) := Eq.trans rfl rfl
@[simp] theorem isBool_tup (ds : List D) : isBool (.tup ds) = .ok (.bl false) := Eq.trans rfl rfl
@[simp] theorem isBool_str (x : Str) : isBool (.str x) = .ok (.bl false) := Eq.trans rfl rfl
@[simp] theorem isBool_lst (ds : List D) : isBool (.lst ds) = .ok (.bl false) := Eq.trans rfl rfl
@[simp] theorem isBool_non  : isBool .non = .ok (.bl false) := Eq.trans rfl rfl
@[simp] theorem isTup_int (i : Int) : isTup (.int i) = .ok (.bl false) := Eq.trans rfl rfl
@[simp] theorem isTup_bl (b : Bool) : isTup (.bl b) = .ok (.bl false) := Eq.trans rfl rfl
@[simp] theorem isTup_str (x : Str) : isTup (.str x) = .ok (.bl false) := Eq.trans rfl rfl
@[simp] theorem isTup_lst (ds : List D) : isTup (.lst ds) = .ok (.bl false) := Eq.trans rfl rfl
@[simp] theorem isTup_non  : isTup .non = .ok (.bl false) := Eq.trans rfl rfl
@[simp] theorem isStr_int (i : Int) : isStr (.int i) = .ok (.bl false) := Eq.trans rfl rfl
@[simp] theorem isStr_bl (b : Bool) : isStr (.bl b) = .ok (.bl false) := Eq.trans rfl rfl
@[simp] theorem isStr_tup (ds : List D) : isStr (.tup ds) = .ok (.bl false) := Eq.trans rfl rfl
@[simp] theorem isStr_str (x : Str) : isStr (.str x) = .ok (.bl true) := Eq.trans rfl rfl
@[simp] theorem isStr_lst (ds : List D) : isStr (.lst ds) = .ok (.bl false) := Eq.trans rfl rfl
@[simp] theorem isStr_non  : isStr .non = .ok (.bl false) := Eq.trans rfl rfl
@[simp] theorem isList_int (i : Int) : isList (.int i) = .ok (.bl false) := Eq.trans rfl rfl
@[simp] theorem isList_bl (b : Bool) : isList (.bl b) = .ok (.bl false) := Eq.trans rfl rfl
@[simp] theorem isList_tup (ds : List D) : isList (.tup ds) = .ok (.bl false) := Eq.trans rfl rfl
@[simp] theorem isList_str (x : Str) : isList (.str x) = .ok (.bl false) := Eq.trans rfl rfl
@[simp] theorem isList_lst (ds : List D) : isList (.lst ds) = .ok (.bl true) := Eq.trans rfl rfl
@[simp] theorem isList_non  : isList .non = .ok (.bl false) := Eq.trans rfl rfl
@[simp] theorem dIx_tup2 (a b c : D) (r : List D) : dIx (.tup (a :: b :: c :: r)) (.int 2) = .ok c := by
  have : (2 : Int) < r.length + 1 + 1 + 1 := by omega
  simp [dIx, atI, ixN, this]
@[simp] theorem dEq_str (a b : Str) : dEq (.str a) (.str b) = .ok (.bl (decide (a = b))) := Eq.trans rfl rfl
@[simp] theorem dNe_str (a b : Str) : dNe (.str a) (.str b) = .ok (.bl (!decide (a = b))) := Eq.trans rfl rfl
@[simp] theorem truth_bl (b : Bool) : D.truth (.bl b) = .ok b := Eq.trans rfl rfl
theorem runDef_rt {n m : Nat} {fb : DL.Env → Out} {ds : List D} {d : D} (h : fb (env0 n m ds) = .rt d) : runDef n m fb ds = .ok d := by unfold runDef; rw [h]
end DL

namespace DL
open PySem PySem.Spec PyProof.Rows L2
open PySem.Builtin.Int (intBits)
/-! ### Euclid's loop over slots 0, 1, 2 -/
/-- the share a rational number is -/
def shr (x : Rat) : D := .tup [.int x.num, .int x.den]
theorem divInt_parts (a : Int) (b : Nat) (hb : b ≠ 0) : (Rat.divInt a b).num = a.fdiv (Nat.gcd b a.natAbs : Nat) ∧ ((Rat.divInt a b).den : Int) = (b : Int).fdiv (Nat.gcd b a.natAbs : Nat) := by
  have e : Rat.divInt a b = Rat.normalize a b hb := by
    rw [Rat.normalize_eq_mkRat]; rfl
  have : (0 : Int) ≤ (Nat.gcd b a.natAbs : Nat) := Int.natCast_nonneg _
  rw [Int.fdiv_eq_ediv_of_nonneg _ this, Int.fdiv_eq_ediv_of_nonneg _ this, Nat.gcd_comm, e, Rat.normalize_eq hb]
  exact ⟨rfl, by simp⟩
end DL

namespace DL
open PySem PySem.Spec PyProof.Rows L2
open PySem.Builtin.Int (intBits)
/-! ### shares -/
/-- sizes of a share -/
def SmR (n m : Nat) (x : Rat) : Prop := Sm n x.num ∧ Sm m (x.den : Int)
theorem SmR.mono {n m n' m' : Nat} {x : Rat} (h : SmR n m x) (a : n ≤ n') (b : m ≤ m') : SmR n' m' x := ⟨h.1.mono a, h.2.mono b⟩
theorem divInt_small {a : Int} {b : Nat} (hb : b ≠ 0) : (Rat.divInt a b).num.natAbs ≤ a.natAbs ∧ (Rat.divInt a b).den ≤ b := by
  obtain ⟨p1, p2⟩ := divInt_parts a b hb
  have hg : (0 : Int) ≤ (Nat.gcd b a.natAbs : Nat) := Int.natCast_nonneg _
  rw [Int.fdiv_eq_ediv_of_nonneg _ hg] at p1 p2
  constructor
  · rw [p1, Int.natAbs_ediv_of_dvd (Int.ofNat_dvd_left.mpr (Nat.gcd_dvd_right _ _))]
    simpa using Nat.div_le_self _ _
  · have : ((b : Int) / (Nat.gcd b a.natAbs : Nat)) = ((b / Nat.gcd b a.natAbs : Nat) : Int) := by simp
    rw [this] at p2
    have := Nat.div_le_self b (Nat.gcd b a.natAbs)
    omega
theorem SmR.divInt {n m : Nat} {a : Int} {b : Nat} (hb : b ≠ 0) (h : Sm n a) (k : Sm m (b : Int)) : SmR n m (Rat.divInt a b) := by
  obtain ⟨p, q⟩ := divInt_small (a := a) hb
  exact ⟨h.le p, k.le (by simpa using q)⟩
theorem divInt_add (x y : Rat) : Rat.divInt (x.num * y.den + y.num * x.den) ((x.den * y.den : Nat) : Int) = x + y := by
  have hx : (x.den : Int) ≠ 0 := by have := x.den_nz; omega
  have hy : (y.den : Int) ≠ 0 := by have := y.den_nz; omega
  have := Rat.divInt_add_divInt x.num y.num hx hy
  rw [Rat.num_divInt_den, Rat.num_divInt_den] at this
  rw [this, Int.natCast_mul]
theorem divInt_mul (x y : Rat) : Rat.divInt (x.num * y.num) ((x.den * y.den : Nat) : Int) = x * y := by
  have := Rat.divInt_mul_divInt x.num y.num (d₁ := x.den) (d₂ := y.den)
  rw [Rat.num_divInt_den, Rat.num_divInt_den] at this
  rw [this, Int.natCast_mul]
theorem den_mul_ne (x y : Rat) : x.den * y.den ≠ 0 := Nat.mul_ne_zero x.den_nz y.den_nz
theorem SmR.add {n m n' m' k : Nat} {x y : Rat} (h : SmR n m x) (q : SmR n' m' y) (a : n + m' ≤ k) (b : n' + m ≤ k) : SmR (k + 1) (m + m') (x + y) := by
  rw [← divInt_add]
  refine SmR.divInt (den_mul_ne x y) (((h.1.mul q.2).mono a).add ((q.1.mul h.2).mono b)) ?_
  rw [Int.natCast_mul]
  exact h.2.mul q.2
theorem SmR.mul {n m n' m' : Nat} {x y : Rat} (h : SmR n m x) (q : SmR n' m' y) : SmR (n + n') (m + m') (x * y) := by
  rw [← divInt_mul]
  refine SmR.divInt (den_mul_ne x y) (h.1.mul q.1) ?_
  rw [Int.natCast_mul]
  exact h.2.mul q.2
end DL

namespace DL
open PySem PySem.Spec PyProof.Rows L2
open PySem.Builtin.Int (intBits)
/-! ### powers of a pair by squarings -/
def pr (a b : Int) : D := .tup [.int a, .int b]
end DL

/-! spreads, plainly -/
namespace DL
open PySem PySem.Spec PyProof.Rows L2
open PySem.Builtin.Int (intBits)
@[simp] theorem dIxA_lst (xs : List D) (i : D) : dIxA (.lst xs) i = dIx (.lst xs) i := rfl
@[simp] theorem dIxA_tup (xs : List D) (i : D) : dIxA (.tup xs) i = dIx (.tup xs) i := rfl
@[simp] theorem dIxA_con (xs : List D) (i : D) : dIxA (.con xs) i = dIx (.con xs) i := rfl
@[simp] theorem dIxA_dct (t : Bool) (kvs : List (D × D)) (i : D) : dIxA (.dct t kvs) i = dAt (.dct t kvs) i := rfl
/-- answers: numbers only -/
def ans (k : List Int) : D := .tup (k.map D.int)
theorem ints_inj : ∀ {a b : List Int}, a.map D.int = b.map D.int → a = b
  | [], [], _ => rfl
  | [], _ :: _, h => by cases h
  | _ :: _, [], h => by cases h
  | x :: a, y :: b, h => by
    rw [List.map_cons, List.map_cons, List.cons.injEq] at h
    cases h.1
    rw [ints_inj h.2]
theorem ans_inj {a b : List Int} (h : ans a = ans b) : a = b := ints_inj (by unfold ans at h; injection h)
@[simp] theorem ans_key (k : List Int) : D.keyOk true (ans k) = true := by
  simp [ans, D.keyOk, D.isKey]
def getR (m : List (List Int × Rat)) (k : List Int) : Option Rat := (m.find? fun p => decide (p.1 = k)).map (·.2)
def putR (m : List (List Int × Rat)) (k : List Int) (x : Rat) : List (List Int × Rat) := if (m.any fun p => decide (p.1 = k)) = true then m.map (fun p => if p.1 = k then (p.1, x) else p) else m ++ [(k, x)]
/-- one more pair -/
def stepR (m : List (List Int × Rat)) (p : List Int × Rat) : List (List Int × Rat) := putR m p.1 ((getR m p.1).getD 0 + p.2)
def totR (ps : List (List Int × Rat)) (k : List Int) : Rat := ps.foldl (fun t p => if p.1 = k then t + p.2 else t) 0
theorem any_key {m : List (List Int × Rat)} {k : List Int} : (m.any fun p => decide (p.1 = k)) = true ↔ k ∈ m.map (·.1) := by
  rw [List.any_eq_true, List.mem_map]
  constructor
  · rintro ⟨p, h, e⟩; exact ⟨p, h, by simpa using e⟩
  · rintro ⟨p, h, e⟩; exact ⟨p, h, by simpa using e⟩
theorem put_keys (m : List (List Int × Rat)) (k : List Int) (x : Rat) : (putR m k x).map (·.1) = if k ∈ m.map (·.1) then m.map (·.1) else m.map (·.1) ++ [k] := by
  unfold putR
  by_cases h : k ∈ m.map (·.1)
  · rw [if_pos (any_key.mpr h), if_pos h, List.map_map]
    apply List.map_congr_left
    intro p _
    show (if p.1 = k then (p.1, x) else p).1 = p.1
    split <;> rfl
  · rw [if_neg (fun z => h (any_key.mp z)), if_neg h, List.map_append]; rfl
theorem get_some {m : List (List Int × Rat)} {k : List Int} : (getR m k).isSome = true ↔ k ∈ m.map (·.1) := by
  unfold getR
  rw [Option.isSome_map, List.find?_isSome, List.mem_map]
  constructor
  · rintro ⟨p, h, e⟩; exact ⟨p, h, by simpa using e⟩
  · rintro ⟨p, h, e⟩; exact ⟨p, h, by simpa using e⟩
theorem get_none {m : List (List Int × Rat)} {k : List Int} (h : k ∉ m.map (·.1)) : getR m k = none := by
  cases e : getR m k with
  | none => rfl
  | some x => exact absurd (get_some.mp (by rw [e]; rfl)) h
theorem put_get_self (m : List (List Int × Rat)) (k : List Int) (x : Rat) : getR (putR m k x) k = some x := by
  unfold putR
  split
  · rename_i h
    induction m with
    | nil => simp at h
    | cons p m ih =>
      unfold getR
      rw [List.map_cons, List.find?_cons]
      by_cases hp : p.1 = k
      · simp [hp]
      · simp only [if_neg hp, decide_eq_false hp]
        have h' : (m.any fun p => decide (p.1 = k)) = true := by simpa [hp] using h
        exact ih h'
  · rename_i h
    unfold getR
    rw [List.find?_append]
    have : m.find? (fun p => decide (p.1 = k)) = none := by
      cases e : m.find? (fun p => decide (p.1 = k)) with
      | none => rfl
      | some p =>
        exfalso
        apply h
        rw [List.any_eq_true]
        exact ⟨p, List.mem_of_find?_eq_some e, List.find?_some (p := fun p : List Int × Rat => decide (p.1 = k)) e⟩
    rw [this]
    simp
theorem put_get_ne {m : List (List Int × Rat)} {k j : List Int} (x : Rat) (h : j ≠ k) : getR (putR m k x) j = getR m j := by
  unfold putR
  split
  · induction m with
    | nil => rfl
    | cons p m ih =>
      unfold getR at *
      rw [List.map_cons, List.find?_cons, List.find?_cons]
      by_cases hp : p.1 = k
      · have hj : p.1 ≠ j := fun z => h (by rw [← z, hp])
        simp only [if_pos hp, decide_eq_false hj]
        rename_i hh
        by_cases h3 : (m.any fun p => decide (p.1 = k)) = true
        · exact ih h3
        · have : m.map (fun p => if p.1 = k then (p.1, x) else p) = m := by
            conv => rhs; rw [← List.map_id m]
            apply List.map_congr_left
            intro q hq
            rw [if_neg]
            · rfl
            · intro z
              apply h3
              rw [List.any_eq_true]
              exact ⟨q, hq, by simpa using z⟩
          rw [this]
      · simp only [if_neg hp]
        by_cases hj : p.1 = j
        · simp [hj]
        · simp only [decide_eq_false hj]
          rename_i hh
          exact ih (by simpa [hp] using hh)
  · unfold getR
    rw [List.find?_append]
    cases m.find? (fun p => decide (p.1 = j)) with
    | some p => rfl
    | none => simp [Ne.symm h]
/-- what the sums are after so many pairs -/
structure SumsOf (m ps : List (List Int × Rat)) : Prop where
  nd : (m.map (·.1)).Nodup
  ks : ∀ k, k ∈ m.map (·.1) ↔ k ∈ ps.map (·.1)
  gt : ∀ k, k ∈ ps.map (·.1) → getR m k = some (totR ps k)
  ln : m.length ≤ ps.length
theorem tot_snoc (ps : List (List Int × Rat)) (p : List Int × Rat) (k : List Int) : totR (ps ++ [p]) k = if p.1 = k then totR ps k + p.2 else totR ps k := by
  unfold totR
  rw [List.foldl_append]
  rfl
theorem tot_none {ps : List (List Int × Rat)} {k : List Int} (h : k ∉ ps.map (·.1)) : totR ps k = 0 := by
  unfold totR
  have gen : ∀ (ps : List (List Int × Rat)) (t : Rat), k ∉ ps.map (·.1) → ps.foldl (fun t p => if p.1 = k then t + p.2 else t) t = t := by
    intro ps
    induction ps with
    | nil => intro t _; rfl
    | cons p ps ih =>
      intro t h
      rw [List.map_cons, List.mem_cons] at h
      rw [List.foldl_cons, if_neg (fun z => h (.inl z.symm))]
      exact ih t fun z => h (.inr z)
  exact gen ps 0 h
theorem SumsOf.step {m ps : List (List Int × Rat)} (S : SumsOf m ps) (p : List Int × Rat) : SumsOf (stepR m p) (ps ++ [p]) := by
  have hk := put_keys m p.1 ((getR m p.1).getD 0 + p.2)
  have ht : (getR m p.1).getD 0 = totR ps p.1 := by
    by_cases h : p.1 ∈ ps.map (·.1)
    · rw [S.gt _ h]; rfl
    · rw [get_none (fun z => h ((S.ks _).mp z)), tot_none h]; rfl
  refine ⟨?_, fun k => ?_, fun k h => ?_, ?_⟩
  · unfold stepR
    rw [hk]
    split
    · exact S.nd
    · rename_i h
      rw [List.nodup_append]
      refine ⟨S.nd, by simp, ?_⟩
      intro a ha b hb
      rw [List.mem_singleton] at hb
      subst hb
      intro e
      subst e
      exact h ha
  · unfold stepR
    rw [hk, List.map_append, List.mem_append, ← S.ks k]
    split
    · rename_i h
      constructor
      · exact .inl
      · rintro (z | z)
        · exact z
        · rw [show k = p.1 by simpa using z]; exact h
    · rw [List.mem_append]; rfl
  · rw [tot_snoc]
    unfold stepR
    by_cases e : p.1 = k
    · subst e
      rw [put_get_self, ht, if_pos rfl]
    · rw [put_get_ne _ (Ne.symm e), if_neg e]
      rw [List.map_append, List.mem_append] at h
      rcases h with z | z
      · exact S.gt _ z
      · exact absurd (by simpa using z : k = p.1).symm e
  · have := congrArg List.length hk
    rw [List.length_map] at this
    unfold stepR
    rw [this, List.length_append]
    have l := S.ln
    split
    · rw [List.length_map]; simp; omega
    · rw [List.length_append, List.length_map]; simp; omega
theorem SumsOf.nil : SumsOf [] [] := ⟨List.nodup_nil, fun k => Iff.rfl, fun k h => absurd h List.not_mem_nil, Nat.le_refl _⟩
theorem SumsOf.all : ∀ (qs : List (List Int × Rat)) {m ps : List (List Int × Rat)}, SumsOf m ps → SumsOf (qs.foldl stepR m) (ps ++ qs)
  | [], m, ps, S => by rw [List.append_nil]; exact S
  | q :: qs, m, ps, S => by
    have := SumsOf.all qs (S.step q)
    rw [List.append_assoc] at this
    exact this
/-! ### order of answers -/
def lexB : List Int → List Int → Bool
  | [], [] => false
  | [], _ :: _ => true
  | _ :: _, [] => false
  | x :: r, y :: t => decide (x < y) || (!decide (y < x) && lexB r t)
theorem lt_ans : ∀ (a b : List Int), D.lt (ans a) (ans b) = lexB a b := by
  have gen : ∀ (a b : List Int), PyProof.Rows.lexLt itemOrd (PySem.W.keyToksAll (D.pys (a.map D.int))) (PySem.W.keyToksAll (D.pys (b.map D.int))) = lexB a b := by
    intro a
    induction a with
    | nil =>
      intro b
      cases b with
      | nil => simp [D.pys, PySem.W.keyToksAll, lexB]; decide
      | cons y b =>
        simp only [List.map_nil, List.map_cons, D.pys, PySem.W.keyToksAll, lexB]
        rw [PyProof.Rows.lex_cons]
        show (decide ((0 : Int) < 1) || _) = true
        simp
    | cons x a ih =>
      intro b
      cases b with
      | nil =>
        simp only [List.map_nil, List.map_cons, D.pys, PySem.W.keyToksAll, lexB]
        rw [PyProof.Rows.lex_cons]
        show (decide ((1 : Int) < 0) || (!decide ((0 : Int) < 1) && _)) = false
        simp
      | cons y b =>
        simp only [List.map_cons, D.pys, D.py, PySem.W.keyToksAll, PySem.W.keyToks, lexB, List.cons_append, List.nil_append]
        rw [PyProof.Rows.lex_cons, PyProof.Rows.lex_cons, ih b]
        show (decide ((1 : Int) < 1) || (!decide ((1 : Int) < 1) && (decide (x < y) || (!decide (y < x) && lexB a b)))) = _
        simp
  intro a b
  exact gen a b
def leB (a b : List Int) : Bool := !lexB b a
theorem le_ans (a b : List Int) : D.le (ans a) (ans b) = leB a b := by
  unfold D.le leB
  rw [lt_ans]
theorem lexB_irr : ∀ a, lexB a a = false
  | [] => rfl
  | x :: r => by simp [lexB, lexB_irr r]
theorem lexB_trans : ∀ {a b c : List Int}, lexB a b = true → lexB b c = true → lexB a c = true
  | [], [], _, h, _ => by cases h
  | [], _ :: _, [], _, h => by simp [lexB] at h
  | [], _ :: _, _ :: _, _, _ => rfl
  | _ :: _, [], _, h, _ => by simp [lexB] at h
  | _ :: _, _ :: _, [], _, h => by simp [lexB] at h
  | x :: a, y :: b, z :: c, h, k => by
    simp only [lexB, Bool.or_eq_true, decide_eq_true_eq, Bool.and_eq_true, Bool.not_eq_true', decide_eq_false_iff_not] at *
    rcases h with h | ⟨h, h2⟩ <;> rcases k with k | ⟨k, k2⟩
    · exact .inl (by omega)
    · exact .inl (by omega)
    · exact .inl (by omega)
    · exact .inr ⟨by omega, lexB_trans h2 k2⟩
theorem lexB_tri : ∀ {a b : List Int}, lexB a b = false → lexB b a = false → a = b
  | [], [], _, _ => rfl
  | [], _ :: _, h, _ => by simp [lexB] at h
  | _ :: _, [], _, h => by simp [lexB] at h
  | x :: a, y :: b, h, k => by
    simp only [lexB, Bool.or_eq_false_iff, decide_eq_false_iff_not, Bool.and_eq_false_iff, Bool.not_eq_false', decide_eq_true_eq] at *
    have e : x = y := by omega
    subst e
    have h2 : lexB a b = false := h.2.resolve_left (by omega)
    have k2 : lexB b a = false := k.2.resolve_left (by omega)
    rw [lexB_tri h2 k2]
theorem leB_trans (a b c : List Int) (h : leB a b = true) (k : leB b c = true) : leB a c = true := by
  unfold leB at *
  simp only [Bool.not_eq_true'] at *
  cases e : lexB c a with
  | false => rfl
  | true =>
    exfalso
    cases f : lexB b c with
    | true => rw [lexB_trans f e] at h; cases h
    | false =>
      have := lexB_tri f k
      subst this
      rw [e] at h; cases h
theorem leB_total (a b : List Int) : (leB a b || leB b a) = true := by
  unfold leB
  cases e : lexB a b with
  | false => simp
  | true =>
    cases f : lexB b a with
    | false => simp
    | true => have := lexB_trans e f; rw [lexB_irr] at this; cases this
def sortK (ks : List (List Int)) : List (List Int) := ks.mergeSort leB
theorem sortK_mem {ks : List (List Int)} {k : List Int} : k ∈ sortK ks ↔ k ∈ ks := List.mem_mergeSort
theorem sortD_ans (ks : List (List Int)) : sortD (ks.map ans) = (sortK ks).map ans := by
  unfold sortD sortK
  rw [List.map_mergeSort]
  intro a _ b _
  exact (le_ans a b).symm
theorem ints_pl (n : Nat) (k : List Int) : D.pls (k.map D.int) n = true := pls_all fun d hd => by
  obtain ⟨i, _, rfl⟩ := List.mem_map.mp hd
  rfl
theorem ans_pl (k : List Int) (n : Nat) : (ans k).pl (n + 1) = true := ints_pl n k
theorem ans_alike : ∀ (a b : List Int), PySem.W.alike (ans a).py (ans b).py = true := by
  have gen : ∀ (a b : List Int), PySem.W.alikeAll (D.pys (a.map D.int)) (D.pys (b.map D.int)) = true := by
    intro a
    induction a with
    | nil => intro b; cases b <;> simp [D.pys, PySem.W.alikeAll]
    | cons x a ih =>
      intro b
      cases b with
      | nil => simp [D.pys, PySem.W.alikeAll]
      | cons y b => simp only [List.map_cons, D.pys, D.py, PySem.W.alikeAll, PySem.W.alike, ih b]; rfl
  intro a b
  exact gen a b
theorem sortOk_ans {ks : List (List Int)} (h : ks.length ≤ sizeLine) : SortOk (ks.map ans) := by
  refine ⟨by rw [List.length_map]; exact h, ?_, ?_, .inl ?_⟩
  · intro x hx; obtain ⟨k, _, rfl⟩ := List.mem_map.mp hx; exact ans_pl k 49
  · intro x hx y hy
    obtain ⟨k, _, rfl⟩ := List.mem_map.mp hx
    obtain ⟨j, _, rfl⟩ := List.mem_map.mp hy
    exact ans_alike k j
  · intro x hx; obtain ⟨k, _, rfl⟩ := List.mem_map.mp hx; exact ⟨_, rfl⟩
/-! ### comprehensions -/
/-! ### spreads -/
def spPairD (p : List Int × Rat) : D := .tup [ans p.1, shr p.2]
/-! ### dicts, step by step -/
@[simp] theorem ownD_app (i : Nat) (e : DL.Env) (k : Bool → List (D × D) → Out) : ownD i e k = (match e[i]? with | some (some (.dct t kvs, true)) => k t kvs | _ => .bad) := Eq.trans rfl rfl
@[simp] theorem sPutD_app (al : List Nat) (i : Nat) (fk fv : DL.Env → Res D) (e : DL.Env) : sPutD al i fk fv e = ownD i (fz al e) fun t kvs => sE al (fun e => (fv e).bind fun v => (fk e).bind fun k => .ok (k, v)) (fun kv e' =>
  if D.keyOk t kv.1 = true ∧ kvs.length < sizeLine then .nx (e'.set i (some (.dct t (dSet kvs kv.1 kv.2), true))) else .bad) e := Eq.trans rfl rfl
@[simp] theorem eGet2_app (fa fb fc : DL.Env → Res D) (e : DL.Env) : eGet2 fa fb fc e = (fa e).bind fun d => match d with
  | .dct t kvs => (fb e).bind fun k => (fc e).bind fun x => dGet2 (.dct t kvs) k x
  | _ => .bad := Eq.trans rfl rfl
@[simp] theorem eDNew_app (t : Bool) (e : DL.Env) : eDNew t e = .ok (.dct t []) := Eq.trans rfl rfl
/-! ### falling shares come to one -/
@[simp] theorem sPutL_app (al : List Nat) (i : Nat) (fk fv : DL.Env → Res D) (e : DL.Env) : sPutL al i fk fv e = ownL i (fz al e) fun xs => sE al (fun e => (fv e).bind fun v => (fk e).bind fun k => .ok (k, v)) (fun kv e' => match kv.1 with
  | .int k => match ixN xs.length k with
    | some j => .nx (e'.set i (some (.lst (xs.set j kv.2), true)))
    | none => .bad
  | _ => .bad) e := Eq.trans rfl rfl
@[simp] theorem bind_sp (ps : List Pat) (p : List Int × Rat) (e : DL.Env) : Pat.bind (.tp ps) (spPairD p) e = Pat.binds ps [ans p.1, shr p.2] e := Eq.trans rfl rfl
theorem ints_of : ∀ ns : List Int, D.ints (ns.map D.int) = some ns
  | [] => rfl
  | n :: r => by show (D.ints (r.map D.int)).map _ = _; rw [ints_of r]; rfl
@[simp] theorem dSum_ints (ns : List Int) : dSum (.lst (ns.map D.int)) = .ok (.int ns.sum) := by
  show (match D.ints (ns.map D.int) with | some ns => Res.ok (D.int ns.sum) | none => .bad) = _
  rw [ints_of]
theorem dIx_last (xs : List D) (d : D) : dIx (.lst (xs ++ [d])) (.int (-1)) = .ok d := by
  have e : ixN (xs.length + 1) (-1) = some xs.length := by
    unfold ixN
    rw [if_neg (by decide), if_pos (by omega)]
    congr 1
    omega
  simp [dIx, atI, e]
end DL

/-! dicts of any keys, plainly -/
namespace DL
open PySem PySem.Spec PyProof.Rows L2
open PySem.Builtin.Int (intBits)
section
variable {α β : Type} [DecidableEq α] {f : α → D} {g : β → D}
def getG (m : List (α × β)) (k : α) : Option β := (m.find? fun p => decide (p.1 = k)).map (·.2)
def putG (m : List (α × β)) (k : α) (x : β) : List (α × β) := if (m.any fun p => decide (p.1 = k)) = true then m.map (fun p => if p.1 = k then (p.1, x) else p) else m ++ [(k, x)]
theorem any_keyG {m : List (α × β)} {k : α} : (m.any fun p => decide (p.1 = k)) = true ↔ k ∈ m.map (·.1) := by
  rw [List.any_eq_true, List.mem_map]
  constructor
  · rintro ⟨p, h, e⟩; exact ⟨p, h, by simpa using e⟩
  · rintro ⟨p, h, e⟩; exact ⟨p, h, by simpa using e⟩
theorem put_keysG (m : List (α × β)) (k : α) (x : β) : (putG m k x).map (·.1) = if k ∈ m.map (·.1) then m.map (·.1) else m.map (·.1) ++ [k] := by
  unfold putG
  by_cases h : k ∈ m.map (·.1)
  · rw [if_pos (any_keyG.mpr h), if_pos h, List.map_map]
    apply List.map_congr_left
    intro p _
    show (if p.1 = k then (p.1, x) else p).1 = p.1
    split <;> rfl
  · rw [if_neg (fun z => h (any_keyG.mp z)), if_neg h, List.map_append]; rfl
theorem get_someG {m : List (α × β)} {k : α} : (getG m k).isSome = true ↔ k ∈ m.map (·.1) := by
  unfold getG
  rw [Option.isSome_map, List.find?_isSome, List.mem_map]
  constructor
  · rintro ⟨p, h, e⟩; exact ⟨p, h, by simpa using e⟩
  · rintro ⟨p, h, e⟩; exact ⟨p, h, by simpa using e⟩
theorem get_noneG {m : List (α × β)} {k : α} (h : k ∉ m.map (·.1)) : getG m k = none := by
  cases e : getG m k with
  | none => rfl
  | some x => exact absurd (get_someG.mp (by rw [e]; rfl)) h
theorem put_get_selfG (m : List (α × β)) (k : α) (x : β) : getG (putG m k x) k = some x := by
  unfold putG
  split
  · rename_i h
    induction m with
    | nil => simp at h
    | cons p m ih =>
      unfold getG
      rw [List.map_cons, List.find?_cons]
      by_cases hp : p.1 = k
      · simp [hp]
      · simp only [if_neg hp, decide_eq_false hp]
        have h' : (m.any fun p => decide (p.1 = k)) = true := by simpa [hp] using h
        exact ih h'
  · rename_i h
    unfold getG
    rw [List.find?_append]
    have : m.find? (fun p => decide (p.1 = k)) = none := by
      cases e : m.find? (fun p => decide (p.1 = k)) with
      | none => rfl
      | some p =>
        exfalso
        apply h
        rw [List.any_eq_true]
        exact ⟨p, List.mem_of_find?_eq_some e, List.find?_some (p := fun p : α × β => decide (p.1 = k)) e⟩
    rw [this]
    simp
theorem put_get_neG {m : List (α × β)} {k j : α} (x : β) (h : j ≠ k) : getG (putG m k x) j = getG m j := by
  unfold putG
  split
  · induction m with
    | nil => rfl
    | cons p m ih =>
      unfold getG at *
      rw [List.map_cons, List.find?_cons, List.find?_cons]
      by_cases hp : p.1 = k
      · have hj : p.1 ≠ j := fun z => h (by rw [← z, hp])
        simp only [if_pos hp, decide_eq_false hj]
        rename_i hh
        by_cases h3 : (m.any fun p => decide (p.1 = k)) = true
        · exact ih h3
        · have : m.map (fun p => if p.1 = k then (p.1, x) else p) = m := by
            conv => rhs; rw [← List.map_id m]
            apply List.map_congr_left
            intro q hq
            rw [if_neg]
            · rfl
            · intro z
              apply h3
              rw [List.any_eq_true]
              exact ⟨q, hq, by simpa using z⟩
          rw [this]
      · simp only [if_neg hp]
        by_cases hj : p.1 = j
        · simp [hj]
        · simp only [decide_eq_false hj]
          rename_i hh
          exact ih (by simpa [hp] using hh)
  · unfold getG
    rw [List.find?_append]
    cases m.find? (fun p => decide (p.1 = j)) with
    | some p => rfl
    | none => simp [Ne.symm h]

theorem putG_len (m : List (α × β)) (k : α) (x : β) : (putG m k x).length ≤ m.length + 1 := by
  have e := congrArg List.length (put_keysG m k x)
  rw [List.length_map] at e
  rw [e]
  split
  · rw [List.length_map]; omega
  · rw [List.length_append, List.length_map]; exact Nat.le_refl _
end
/-- so many times each -/
def bumpG {α : Type} [DecidableEq α] (m : List (α × Nat)) (k : α) : List (α × Nat) := putG m k ((getG m k).getD 0 + 1)
def timesG {α : Type} [DecidableEq α] (k : α) (l : List α) : Nat := (l.filter fun x => decide (x = k)).length
structure CountsOf {α : Type} [DecidableEq α] (m : List (α × Nat)) (l : List α) : Prop where
  nd : (m.map (·.1)).Nodup
  ks : ∀ k, k ∈ m.map (·.1) ↔ k ∈ l
  gt : ∀ k, (getG m k).getD 0 = timesG k l
  sm : ∀ k, k ∈ l → getG m k = some (timesG k l)
  ln : m.length ≤ l.length
theorem CountsOf.nil {α : Type} [DecidableEq α] : CountsOf ([] : List (α × Nat)) [] := ⟨List.nodup_nil, fun k => Iff.rfl, fun k => rfl, fun k h => absurd h List.not_mem_nil, Nat.le_refl _⟩
theorem timesG_snoc {α : Type} [DecidableEq α] (k x : α) (l : List α) : timesG k (l ++ [x]) = timesG k l + if x = k then 1 else 0 := by
  unfold timesG
  rw [List.filter_append, List.length_append]
  by_cases h : x = k
  · simp [h]
  · simp [h]
theorem CountsOf.step {α : Type} [DecidableEq α] {m : List (α × Nat)} {l : List α} (S : CountsOf m l) (x : α) : CountsOf (bumpG m x) (l ++ [x]) := by
  have hk := put_keysG m x ((getG m x).getD 0 + 1)
  have g1 : ∀ k, getG (bumpG m x) k = if x = k then some (timesG k l + 1) else getG m k := fun k => by
    unfold bumpG
    by_cases e : x = k
    · subst e
      rw [put_get_selfG, if_pos rfl, S.gt]
    · rw [put_get_neG _ (Ne.symm e), if_neg e]
  refine ⟨?_, fun k => ?_, fun k => ?_, fun k h => ?_, ?_⟩
  · unfold bumpG
    rw [hk]
    split
    · exact S.nd
    · rename_i h
      rw [List.nodup_append]
      refine ⟨S.nd, by simp, ?_⟩
      intro a ha b hb
      rw [List.mem_singleton] at hb
      subst hb
      intro e
      subst e
      exact h ha
  · unfold bumpG
    rw [hk, List.mem_append, List.mem_singleton, ← S.ks k]
    split
    · rename_i h
      exact ⟨.inl, fun z => z.elim id fun e => e ▸ h⟩
    · rw [List.mem_append, List.mem_singleton]
  · rw [g1, timesG_snoc]
    split
    · rfl
    · rw [S.gt]; rfl
  · rw [g1, timesG_snoc]
    split
    · rfl
    · rename_i e
      rw [List.mem_append, List.mem_singleton] at h
      rw [S.sm k (h.resolve_right fun z => e z.symm)]
      rfl
  · have := putG_len m x ((getG m x).getD 0 + 1)
    have l' := S.ln
    rw [List.length_append]
    show (putG m x _).length ≤ l.length + 1
    omega
/-! ### sorted numbers -/
end DL

/-! rows of numbers, plainly -/
namespace DL
open PySem PySem.Spec PyProof.Rows L2
open PySem.Builtin.Int (intBits)
theorem beq_ans (a b : List Int) : D.beq (ans a) (ans b) = decide (a = b) := by
  have gen : ∀ (a b : List Int), PyData.eqvAll (D.pys (a.map D.int)) (D.pys (b.map D.int)) = decide (a = b) := by
    intro a
    induction a with
    | nil => intro b; cases b <;> simp [D.pys, PyData.eqvAll]
    | cons x a ih =>
      intro b
      cases b with
      | nil => simp [D.pys, PyData.eqvAll]
      | cons y b =>
        simp only [List.map_cons, D.pys, D.py, PyData.eqvAll, ih b]
        show (PyData.eqv (.int x) (.int y) && decide (a = b)) = _
        have e : PyData.eqv (.int x) (.int y) = decide (x = y) := by
          simp [PyData.eqv]
          exact Bool.eq_iff_iff.mpr (by simp)
        rw [e]
        by_cases h1 : x = y <;> by_cases h2 : a = b <;> simp [h1, h2]
  show PyData.eqv (.tuple (D.pys (a.map D.int))) (.tuple (D.pys (b.map D.int))) = _
  rw [PyData.eqv]
  exact gen a b
def rowsD (L : List (List Int)) : List D := L.map ans
theorem rows_pl (L : List (List Int)) (n : Nat) : D.pls (rowsD L) (n + 1) = true := pls_all fun d hd => by
  obtain ⟨k, _, rfl⟩ := List.mem_map.mp hd
  exact ans_pl k n
theorem has_rows (L : List (List Int)) (k : List Int) : D.has (rowsD L) (ans k) = decide (k ∈ L) := by
  unfold D.has rowsD
  rw [List.any_map]
  induction L with
  | nil => simp
  | cons r L ih =>
    rw [List.any_cons, ih]
    show (D.beq (ans r) (ans k) || _) = _
    rw [beq_ans]
    by_cases h : r = k
    · simp [h]
    · have h2 : ¬ k = r := fun z => h z.symm
      simp [h, h2]
theorem dInA_rows (no : Bool) (L : List (List Int)) (k : List Int) : dInA no (ans k) (.lst (rowsD L)) = .ok (.bl (decide (k ∈ L) != no)) := by
  show (if _ then _ else _) = _
  rw [if_pos ⟨ans_pl k 49, rows_pl L 49⟩, has_rows]
/-- without the first x -/
def rmv {α : Type} [DecidableEq α] (l : List α) (x : α) : List α := l.erase x
theorem rmv_head {α : Type} [DecidableEq α] (x : α) (l : List α) : rmv (x :: l) x = l := List.erase_cons_head ..
theorem rmv_tail {α : Type} [DecidableEq α] {x y : α} (l : List α) (h : y ≠ x) : rmv (y :: l) x = y :: rmv l x := List.erase_cons_tail (by simpa using h)
theorem remove_rows {L : List (List Int)} {k : List Int} (h : k ∈ L) : gRemove (rowsD L) [ans k] = some (rowsD (rmv L k)) := by
  show (if _ then _ else _) = _
  rw [if_pos ⟨ans_pl k 49, rows_pl L 49⟩]
  have gen : ∀ L : List (List Int), k ∈ L → ∃ j, (rowsD L).findIdx? (fun z => D.beq z (ans k)) = some j ∧ (rowsD L).eraseIdx j = rowsD (rmv L k) := by
    intro L
    induction L with
    | nil => intro h; cases h
    | cons r L ih =>
      intro h
      unfold rowsD at *
      rw [List.map_cons, List.findIdx?_cons, beq_ans]
      by_cases e : r = k
      · subst e
        refine ⟨0, by simp, ?_⟩
        rw [rmv_head]
        rfl
      · rw [List.mem_cons] at h
        obtain ⟨j, h1, h2⟩ := ih (h.resolve_left fun z => e z.symm)
        refine ⟨j + 1, by simp [e, h1], ?_⟩
        rw [List.eraseIdx_cons_succ, h2, rmv_tail _ e, List.map_cons]
  obtain ⟨j, h1, h2⟩ := gen L h
  rw [h1]
  dsimp only
  rw [h2]
/-! ### how many stand in the one and not in the other -/
section
variable {α : Type} [DecidableEq α]
end
end DL

/-! rows of numbers, sorted -/
namespace DL
open PySem PySem.Spec PyProof.Rows L2
theorem leB_anti {a b : List Int} (h : leB a b = true) (k : leB b a = true) : a = b := by
  unfold leB at h k
  exact lexB_tri (by simpa using k) (by simpa using h)
theorem sortK_up (L : List (List Int)) : (sortK L).Pairwise (fun a b => leB a b = true) := List.pairwise_mergeSort (fun a b c h k => leB_trans a b c h k) (fun a b => leB_total a b) L
theorem sortK_perm (L : List (List Int)) : (sortK L).Perm L := List.mergeSort_perm L leB
theorem sortK_id {L : List (List Int)} (h : L.Pairwise (fun a b => leB a b = true)) : sortK L = L :=
  List.Perm.eq_of_pairwise (le := fun a b => leB a b = true) (fun a b _ _ h k => leB_anti h k) (sortK_up L) h (sortK_perm L)
theorem sortK_two (L : List (List Int)) : sortK (sortK L) = sortK L := sortK_id (sortK_up L)
theorem sortK_len (L : List (List Int)) : (sortK L).length = L.length := (sortK_perm L).length_eq
theorem sorted_rows {L : List (List Int)} (h : L.length ≤ sizeLine) {d : D} (hd : d.items = some (rowsD L)) : dSorted d = .ok (.lst (rowsD (sortK L))) := by
  unfold dSorted
  rw [hd]
  dsimp only
  unfold rowsD
  rw [if_pos (sortOk_ans h), sortD_ans]
end DL

/-! sorted(set(t)), t a tuple of rows of numbers with fewer than 64 unlike ones -/
namespace DL
open PySem PySem.Spec PyProof.Rows L2
section
variable {P : Program} {w : World} {A : Around} {E : Value → Shared → Prop} {s : Shared} {a : Addr} {L : List (Addr × List Int)} {es : Array (Int × Value)} {ep : Nat} {t : SetTable}
set_option maxRecDepth 100000 in
set_option maxHeartbeats 3200000 in
end
end DL

namespace DL
open PySem PySem.Spec PyProof.Rows L2
/-! ### the rule -/
open Classical in
noncomputable def nubR : List (List Int) → List (List Int)
  | [] => []
  | k :: r => if k ∈ nubR r then nubR r else k :: nubR r
theorem nubR_mem {k : List Int} : ∀ {ks : List (List Int)}, k ∈ nubR ks ↔ k ∈ ks
  | [] => Iff.rfl
  | x :: r => by
    unfold nubR
    split
    · rename_i h
      rw [nubR_mem, List.mem_cons]
      exact ⟨.inr, fun z => z.elim (fun z => by rw [z]; exact nubR_mem.mp h) fun z => z⟩
    · rw [List.mem_cons, List.mem_cons, nubR_mem]
def D.row : D → Option (List Int)
  | .tup xs => D.ints xs
  | _ => none
theorem ints_some : ∀ k : List Int, D.ints (k.map D.int) = some k
  | [] => rfl
  | i :: k => by rw [List.map_cons, D.ints, ints_some k]; rfl
theorem row_ans (k : List Int) : D.row (ans k) = some k := ints_some k
def D.rws : List D → Option (List (List Int))
  | [] => some []
  | d :: r => match d.row, D.rws r with
    | some k, some ks => some (k :: ks)
    | _, _ => none
theorem rws_rows : ∀ L : List (List Int), D.rws (rowsD L) = some L
  | [] => rfl
  | k :: L => by
    show (match (ans k).row, D.rws (rowsD L) with | some k, some ks => some (k :: ks) | _, _ => none) = _
    rw [row_ans, rws_rows L]
theorem rows_rws : ∀ {ds : List D} {L : List (List Int)}, D.rws ds = some L → ds = rowsD L
  | [], L, h => by cases h; rfl
  | d :: ds, L, h => by
    unfold D.rws at h
    cases hd : d.row with
    | none => rw [hd] at h; cases h
    | some k =>
      cases hs : D.rws ds with
      | none => rw [hd, hs] at h; cases h
      | some ls =>
        rw [hd, hs] at h
        cases h
        have e : d = ans k := by
          cases d with
          | tup xs => rw [ints_eq (show D.ints xs = some k from hd)]; rfl
          | _ => cases hd
        rw [e, rows_rws hs]
        rfl
/-- the rows' addresses -/
theorem rows_at {K : PySem.W.Frag} {G : Hp} : ∀ {L : List (List Int)} {vs : List V}, RepL K G (rowsD L) vs → ∃ ks : List (Addr × List Int), vs = (ks.map fun p => V.ref p.1) ∧ ks.map (·.2) = L ∧ ∀ p ∈ ks, G p.1 = some (.tup (p.2.map V.int))
  | [], vs, r => ⟨[], by rw [show vs = [] from r]; rfl, rfl, fun p hp => by cases hp⟩
  | k :: L, vs, ⟨v, r, e, ⟨a, ws, e2, ga, rw1⟩, t⟩ => by
    subst e2
    obtain ⟨ks, rfl, h2, h3⟩ := rows_at t
    have ints1 : ∀ {k : List Int} {ws : List V}, RepL K G (k.map D.int) ws → ws = k.map V.int := by
      intro k
      induction k with
      | nil => intro ws h; exact h
      | cons i k ih => rintro _ ⟨v, r, rfl, rfl, t⟩; rw [ih t]; rfl
    refine ⟨(a, k) :: ks, by rw [e]; rfl, by rw [List.map_cons, h2], fun p hp => ?_⟩
    rcases List.mem_cons.mp hp with rfl | hp
    · rw [← ints1 rw1]; exact ga
    · exact h3 p hp
theorem rep_ints {K : PySem.W.Frag} {G : Hp} : ∀ k : List Int, RepL K G (k.map D.int) (k.map V.int)
  | [] => rfl
  | _ :: k => ⟨_, _, rfl, rfl, rep_ints k⟩
theorem ans_dp (k : List Int) : (ans k).py.depth ≤ 2 := by
  have : ∀ k : List Int, PyData.depthAll (D.pys (k.map D.int)) ≤ 1 := by
    intro k
    induction k with
    | nil => simp [D.pys, PyData.depthAll]
    | cons i k ih => simp only [List.map_cons, D.pys, D.py, PyData.depthAll, PyData.depth]; omega
  have h := this k
  simp only [ans, D.py, PyData.depth]
  omega
section
variable {X : Cx} {W : WX} {A : Nat → Prop} {a : Expr} {p p2 q pos : Pos}
end
end DL

/-! tuples put together, one of them plain; sorted(set(t)) of plain tuples -/
namespace DL
open PySem PySem.Spec PyProof.Rows L2
section
variable {X : Cx} {W : WX} {A : Nat → Prop}
variable {a : Expr} {p p2 q pos : Pos}
/-! sorted(x), x a plain tuple, too -/
end
end DL

/-! errors with fields: caught, looked at -/
namespace EXD
open PySem PySem.Spec PySem.Calls PyProof.Rows PySem.W
section
variable {prog : Program} {w : World} {A : Around} {E : Value → Shared → Prop} {K : Frag} {x D : Addr} {ox : Obj}
end
end EXD
namespace L2
open PySem PySem.Spec PyProof.Rows
end L2
namespace DL
open PySem PySem.Spec PyProof.Rows L2
/-! ### tuples of the heap, known to all -/
def upT (H G : Hp) : Hp := fun b => match H b with
  | some (.tup vs) => some (.tup vs)
  | _ => G b
section
variable {K : PySem.W.Frag} {H G : Hp}
theorem upT_tup {b : Addr} {vs : List V} (h : H b = some (.tup vs)) : upT H G b = some (.tup vs) := by
  unfold upT; rw [h]
theorem upT_or (b : Addr) : (∃ vs, H b = some (.tup vs) ∧ upT H G b = some (.tup vs)) ∨ ((∀ vs, H b ≠ some (.tup vs)) ∧ upT H G b = G b) := by
  unfold upT
  split
  · rename_i vs e; exact .inl ⟨vs, e, rfl⟩
  · rename_i n; exact .inr ⟨fun vs e => n vs e, rfl⟩
theorem upT_gg (s : Sub G H) : Sub G (upT H G) := fun b o e => by
  rcases upT_or (H := H) (G := G) b with ⟨vs, h1, h2⟩ | ⟨_, h2⟩
  · have := s b o e
    rw [h1] at this; cases this; exact h2
  · rw [h2]; exact e
theorem upT_hh (s : Sub G H) : Sub (upT H G) H := fun b o e => by
  rcases upT_or (H := H) (G := G) b with ⟨vs, h1, h2⟩ | ⟨_, h2⟩
  · rw [h2] at e; cases e; exact h1
  · rw [h2] at e; exact s b o e
mutual
theorem Rep.upT : ∀ {d : D} {v : V}, d.tfl = true → Rep K H d v → Rep K (upT H G) d v
  | .non, _, _, e => e
  | .bl _, _, _, e => e
  | .int _, _, _, e => e
  | .str _, _, _, e => e
  | .tup ds, _, f, ⟨t, vs, e, s, r⟩ => ⟨t, vs, e, upT_tup s, RepL.upT (show D.tfls ds = true from f) r⟩
  | .obj _, _, f, _ => by cases f
  | .err _ _, _, f, _ => by cases f
  | .exn _ _ _, _, f, _ => by cases f
  | .con _, _, f, _ => by cases f
  | .lst _, _, f, _ => by cases f
  | .dct _ _, _, f, _ => by cases f
theorem RepL.upT : ∀ {ds : List D} {vs : List V}, D.tfls ds = true → RepL K H ds vs → RepL K (upT H G) ds vs
  | [], _, _, e => e
  | d :: r, _, f, ⟨v, w, e, x, y⟩ => ⟨v, w, e, Rep.upT (Bool.and_eq_true_iff.mp f).1 x, RepL.upT (Bool.and_eq_true_iff.mp f).2 y⟩
end
/-- fields that any may keep -/
def flat2 : List (D × D) → Bool
  | [] => true
  | (_, d) :: r => D.tfl d && flat2 r
theorem RepV.upT : ∀ {fs : List (D × D)} {vs : List V}, flat2 fs = true → RepV K H fs vs → RepV K (DL.upT H G) fs vs
  | [], _, _, e => e
  | (_, d) :: r, _, f, ⟨v, w, e, x, y⟩ => ⟨v, w, e, Rep.upT (Bool.and_eq_true_iff.mp f).1 x, RepV.upT (Bool.and_eq_true_iff.mp f).2 y⟩
/-- more is known to all -/
theorem StOk.grow {H0 : Bas} {G0 G2 : Hp} {σ : L2.St} {e : DL.Env} (S : StOk K H0 G0 σ e H G) (s : Sub G G2) (s2 : Sub G2 H) (n : ∀ b, G2 b ≠ none → G b = none → Fr1 H0.hp b ∧ ∀ vs ps, H b ≠ some (.lst vs) ∧ H b ≠ some (.dK ps)) (n3 : ∀ b, G2 b ≠ none → G b = none → ∀ ps, H b ≠ some (.dT ps)) : StOk K H0 G0 σ e H G2 := by
  refine ⟨⟨S.ext.hh, S.ext.gg.trans s, s2, fun b z => ?_⟩, S.len, fun i d h => let ⟨v, q1, q2⟩ := S.sh i d h; ⟨v, q1, q2.mono s⟩, fun i d h => ?_, S.ne, S.pn⟩
  · by_cases hg : G b = none
    · exact .inr (n b z hg).1
    · exact S.ext.new b hg
  · obtain ⟨a, q1, q2, q3, q4⟩ := S.ow i d h
    refine ⟨a, q1, q2, ?_, q4.mono (Sub.refl _) s⟩
    cases hg : G2 a with
    | none => rfl
    | some o =>
      have z : G2 a ≠ none := by rw [hg]; simp
      have k := n a z q3
      have k3 := n3 a z q3
      cases d with
      | lst ds => obtain ⟨vs, e, _⟩ := q4; exact absurd e (k.2 vs []).1
      | dct t kvs =>
        rcases q4 with ⟨_, ps, e, _⟩ | ⟨_, ps, e, _⟩
        · exact absurd e (k.2 [] ps).2
        · exact absurd e (k3 ps)
      | _ => exact q4.elim
/-- the heap's tuples, and an error's dict -/
theorem StOk.withX {H0 : Bas} {G0 : Hp} {σ : L2.St} {e : DL.Env} {dd : Addr} {ps : List (Str × V)} (S : StOk K H0 G0 σ e H G) (h : H dd = some (.xd ps)) (n : H0.hp dd = none) : StOk K H0 G0 σ e H (upd (upT H G) dd (.xd ps)) ∧ Sub (upT H G) (upd (upT H G) dd (.xd ps)) := by
  have g := S.ext.gh
  have s1 : Sub (upT H G) (upd (upT H G) dd (.xd ps)) := fun b o e => by
    by_cases hb : b = dd
    · subst hb
      have := upT_hh g _ _ e
      rw [h] at this; cases this; exact upd_same
    · rw [upd_ne hb]; exact e
  refine ⟨S.grow ((upT_gg g).trans s1) (fun b o e => ?_) (fun b z hg => ?_) (fun b z hg ps' e => ?_), s1⟩
  · by_cases hb : b = dd
    · subst hb; rw [upd_same] at e; cases e; exact h
    · rw [upd_ne hb] at e; exact upT_hh g _ _ e
  · by_cases hb : b = dd
    · subst hb
      exact ⟨.inl n, fun vs ps' => ⟨by rw [h]; simp, by rw [h]; simp⟩⟩
    · rw [upd_ne hb] at z
      rcases upT_or (H := H) (G := G) b with ⟨vs, h1, _⟩ | ⟨_, h2⟩
      · exact ⟨Fr1.back S.ext.hh (.inr ⟨vs, h1⟩), fun vs' ps' => ⟨by rw [h1]; simp, by rw [h1]; simp⟩⟩
      · rw [h2] at z; exact absurd hg z
  · by_cases hb : b = dd
    · subst hb; rw [h] at e; cases e
    · rw [upd_ne hb] at z
      rcases upT_or (H := H) (G := G) b with ⟨vs, h1, _⟩ | ⟨_, h2⟩
      · rw [h1] at e; cases e
      · rw [h2] at z; exact absurd hg z
end
/-! ### the suite's error, with its fields -/
section
variable {X : Cx} {W : WX} {A : Nat → Prop} {pos p p1 p2 p3 : Pos}
/-- which classes keep fields under this name -/
def FldTab (K : PySem.W.Frag) (mg : Str → Option Value) (n : Str) (t : String → Bool) : Prop := ∀ c cls, t c = true → mg (Str.ofString c) = some cls → ∃ C, cls = .ref C ∧ XfC K C ∧ PySem.W.findIn K (.ref C) n = some none
theorem FldTab.nil {K : PySem.W.Frag} {mg : Str → Option Value} {n : Str} : FldTab K mg n (fun _ => false) := fun c cls h _ => by cases h
theorem FldTab.cons {K : PySem.W.Frag} {mg : Str → Option Value} {n : Str} {x : String} {C : Addr} {f : String → Bool} (hm : mg (Str.ofString x) = some (.ref C)) (hx : XfC K C) (hn : PySem.W.findIn K (.ref C) n = some none) (t : FldTab K mg n f) : FldTab K mg n (fun s => if s = x then true else f s) := fun c cls h hcl => by
  dsimp only at h
  by_cases hk : c = x
  · subst hk
    rw [hm] at hcl
    cases hcl
    exact ⟨C, rfl, hx, hn⟩
  · rw [if_neg hk] at h
    exact t c cls h hcl
end
end DL

/-! errors with fields: made and raised -/
namespace L2
open PySem PySem.Spec PyProof.Rows
/-- what the written part says of the base of all errors -/
structure BasE (K : PySem.W.Frag) (B : Addr) : Prop where
  sp : PySem.W.specialIn K (.ref B) "__getattribute__" = some (some (.builtin "type.__getattribute__"))
  ty : PySem.W.typeIn K (.ref B) = some (.type "type")
  rd : PySem.W.readsIn K B (.type "type") = true
  fc : PySem.W.findCls K (.ref B) (.type "type") "__init__" = some (.val (.builtin "ValueError.__init__"))
section
variable {X : Cx} {e : Expr} {es : List Expr} {ta : TA} {p1 p2 pos : Pos} {x : Str} {B : Addr}
end
/-- __init__(self, words, ..): it keeps what stands behind the words under the names ns -/
def spI (K : PySem.W.Frag) (ns : List Str) : Sp := fun vs H Q E => vs.length = ns.length + 2 ∧ ∃ (a C : Addr) (w : Str) (ws : List V), vs = .ref a :: .str w :: ws ∧ OexC K C ∧ (∀ n ∈ ns, PySem.W.findIn K (.ref C) n = some none) ∧ H a = some (exo a C none) ∧
  ∀ d H', H d = none → d ≠ a → (∀ b, b ≠ a → b ≠ d → H' b = H b) → H' a = some (exo a C (some d)) → H' d = some (exd d (ns.zip ws).reverse) → Q .non H'
section
variable {K : PySem.W.Frag}
end
end L2
namespace DL
open PySem PySem.Spec PyProof.Rows L2
/-- a class of errors with the fields ns -/
structure FldOk (P : Program) (w : World) (K : PySem.W.Frag) (mg : Str → Option Value) (base : Heap) (k : Nat) (c : String) (ns : List Str) : Prop where
  ok : ∃ (C fI : Addr) (fd : FuncData), OexC K C ∧ (∀ n ∈ ns, PySem.W.findIn K (.ref C) n = some none) ∧ PySem.W.findIn K (.ref C) "__init__" = some (some (.ref fI)) ∧ PySem.W.typeIn K (.ref fI) = some (.type "function") ∧
    mg (Str.ofString c) = some (.ref C) ∧ Binds K fd ("self" :: "words" :: ns) [] ∧ FnOk P w K mg base (L2.CX P w) k fI fd ("self" :: "words" :: ns) (spI K ns)
theorem FldOk.up {P : Program} {w : World} {K : PySem.W.Frag} {mg : Str → Option Value} {base : Heap} {j k : Nat} {c : String} {ns : List Str} (h : FldOk P w K mg base j c ns) (hjk : j ≤ k) : FldOk P w K mg base k c ns := by
  obtain ⟨C, fI, fd, a1, a2, a3, a4, a5, a6, a7⟩ := h.ok
  exact ⟨⟨C, fI, fd, a1, a2, a3, a4, a5, a6, a7.mono hjk⟩⟩
section
variable {X : Cx} {W : WX} {H0 : Bas} {G0 : Hp} {al : List Nat} {ex : Expr} {es : List Expr} {pos p p1 : Pos}
end
end DL

/-! except clauses that look at the error's fields -/
namespace DL
open PySem PySem.Spec PyProof.Rows L2
section
variable {X : Cx} {W : WX} {A : Nat → Prop} {pos p p1 p2 p3 : Pos} {H0 : Bas} {G0 : Hp}
/-- what the error's slot holds -/
def slotX (a : Addr) : Option Addr → List (D × D) → D
  | none, _ => .obj (.ref a)
  | some dd, fs => .exn a dd fs
/-- a clause: the slot of its name, what it does at each class, its suite -/
abbrev HdX := Nat × (String → Option Bool) × (Addr → Option Addr → String → DL.Env → Out)
noncomputable def hitOne (i : Nat) (f : Addr → Option Addr → String → DL.Env → Out) (c : String) (fs : List (D × D)) (e : DL.Env) : Out :=
  if fs = [] then unif fun a => clrN i (f a none c (e.set i (some (slotX a none fs, false))))
  else if flat2 fs = true then unif fun a => unif fun dd => clrN i (f a (some dd) c (e.set i (some (slotX a (some dd) fs, false)))) else .bad
noncomputable def hdlX (c : String) (fs : List (D × D)) (e : DL.Env) : List HdX → Out
  | [] => .ex c fs e
  | (i, h, f) :: r => match h c with
    | some true => hitOne i f c fs e
    | some false => hdlX c fs e r
    | none => .bad
inductive HdDX (X : Cx) (H0 : Bas) (G0 : Hp) : List ExceptHandler → List HdX → Prop
  | nil : HdDX X H0 G0 [] []
  | cons {i : Nat} {x n : Str} {c : Value} {suite : List Stmt} {b₀ : Stmt} {np pos' : Pos} {h : String → Option Bool} {fs : Addr → Option Addr → String → DL.Env → Out} {hds : List ExceptHandler} {l : List HdX} (hi : X.N[i]? = some n) (hln : X.env.kindOf n = some .local) (hc : Names X x c) (hh : Clause X.K X.mg c h)
    (hsu : ∀ (a : Addr) (oe : Obj) (cls : Value) (d : Option Addr) (pn : List (Addr × Obj)) (k : String), Zc cls d oe → (∃ vs, oe.data = .fields vs) → X.mg (Str.ofString k) = some cls → DSs (X.suite a ((a, oe) :: pn)) WF H0 G0 (b₀ :: suite) (fs a d k)) (r : HdDX X H0 G0 hds l) :
    HdDX X H0 G0 (.ExceptHandler (some (.Name x np)) (some n) (b₀ :: suite) pos' :: hds) ((i, h, fs) :: l)
theorem unif_ne {g : Addr → Out} {Z : Ends} {K : PySem.W.Frag} {mg : Str → Option Value} (q : SPost K mg W H0 G0 (unif g) Z) (a : Addr) : SPost K mg W H0 G0 (g a) Z := by
  have nb : unif g ≠ .bad := fun z => by rw [z] at q; exact q
  rw [← unif_at nb a]; exact q
theorem hitOne_at {K : PySem.W.Frag} {mg : Str → Option Value} {i : Nat} {f : Addr → Option Addr → String → DL.Env → Out} {c : String} {fs : List (D × D)} {e : DL.Env} {Z : Ends} {σ : L2.St} {H1 H2 G1 : Hp} {cls : Value} {o : Option Addr} (q : SPost K mg W H0 G0 (hitOne i f c fs e) Z)
    (S : StOk K H0 G0 σ e H1 G1) (s2 : Sub H1 H2) (ix : IsExc K mg c fs cls o H1 H2) (a : Addr) :
    ∃ G2 e2, StOk K H0 G0 (σ.set i (some (.ref a))) e2 H2 G2 ∧ SPost K mg W H0 G0 (clrN i (f a o c e2)) Z := by
  have S2 : StOk K H0 G0 σ e H2 G1 := ⟨⟨S.ext.hh.trans s2, S.ext.gg, S.ext.gh.trans s2, S.ext.new⟩, S.len, S.sh, fun i d h => let ⟨a, q1, q2, q3, q4⟩ := S.ow i d h; ⟨a, q1, q2, q3, q4.mono s2 (Sub.refl _)⟩, S.ne, S.pn⟩
  unfold hitOne at q
  cases o with
  | none =>
    rw [if_pos ix.2] at q
    exact ⟨G1, _, S2.set i (d := .obj (.ref a)) (v := .ref a) rfl, unif_ne q a⟩
  | some dd =>
    obtain ⟨g, n1, n2, ps, hd, keys, rv⟩ := ix
    rw [if_neg n1] at q
    by_cases fl : flat2 fs = true
    · rw [if_pos fl] at q
      obtain ⟨S3, sb⟩ := S2.withX hd (S.ext.hh.free n2)
      exact ⟨_, _, S3.set i (d := .exn a dd fs) (v := .ref a) ⟨rfl, ps, upd_same, keys, RepV.mono sb (RepV.upT fl rv)⟩, unif_ne (unif_ne q a) dd⟩
    · rw [if_neg fl] at q; exact q.elim
theorem HdDX.as {hds : List ExceptHandler} {l : List HdX} (hd : HdDX X H0 G0 hds l) : ∃ l', HdAs X hds l' ∧ ∀ (Z : Ends) (c : String) (fs : List (D × D)) (e : DL.Env),
    SPost X.K X.mg W H0 G0 (hdlX c fs e l) Z → ∀ (cls : Value) (o : Option Addr) (σ' : L2.St) (H' G' H2 : Hp), StOk X.K H0 G0 σ' e H' G' → Sub H' H2 → IsExc X.K X.mg c fs cls o H' H2 → wAsL X.K W Z l' cls o σ' H2 := by
  induction hd with
  | nil => exact ⟨[], .nil, fun Z c fs e q cls o σ' H' G' H2 S' s2 ix => q cls o σ' H' G' H2 S' s2 ix⟩
  | @cons i x n cv suite b₀ np pos' h fs hds l hi hln hc hh hsu r ih =>
    obtain ⟨l', hl, hq⟩ := ih
    refine ⟨(cv, i, fun a cls d Z σ H => ∃ k, X.mg (Str.ofString k) = some cls ∧ tS X.K X.mg WF H0 G0 (fs a d k) Z σ H) :: l', .cons hc hi hln (fun a oe cls d pn hz hd => ⟨fun pins s σ H Z I ⟨k, hk, t⟩ => (hsu a oe cls d pn k hz hd hk).run pins s σ H Z I t⟩) hl, fun Z k fs' e' q cls o σ' H' G' H2 S' s2 ix => ?_⟩
    unfold hdlX at q
    cases hk : h k with
    | none => rw [hk] at q; exact q.elim
    | some b =>
      refine ⟨b, hh k b cls hk ix.1, fun eb a _ => ?_, fun eb => ?_⟩
      · subst eb
        rw [hk] at q
        obtain ⟨G2, e2, S3, q3⟩ := hitOne_at q S' s2 ix a
        refine ⟨k, ix.1, e2, G2, S3, ?_⟩
        cases hq' : fs a o k e2 with
        | nx e3 => rw [hq'] at q3; exact fun σ5 H5 G5 S5 => q3 _ H5 G5 (S5.clear i)
        | bk e3 => rw [hq'] at q3; exact fun σ5 H5 G5 S5 => q3 _ H5 G5 (S5.clear i)
        | ct e3 => rw [hq'] at q3; exact fun σ5 H5 G5 S5 => q3 _ H5 G5 (S5.clear i)
        | rt d => rw [hq'] at q3; exact q3
        | ro d => rw [hq'] at q3; exact q3
        | rm d e3 => rw [hq'] at q3; exact fun v σ5 H5 G5 S5 r5 => q3 v _ H5 G5 (S5.clear i) r5
        | ex c' f' e3 => rw [hq'] at q3; exact q3.elim
        | bad => rw [hq'] at q3; exact q3.elim
      · subst eb
        rw [hk] at q
        exact hq Z k fs' e' q cls o σ' H' G' H2 S' s2 ix
end
end DL

/-! l.pop(i) as a statement; a text so many times -/
namespace L2
open PySem PySem.Spec PyProof.Rows
end L2
namespace DL
open PySem PySem.Spec PyProof.Rows L2
section
variable {X : Cx} {W : WX}
end
end DL

/-! defs with defaults -/
namespace DL
open PySem PySem.Spec PyProof.Rows L2
/-- a def with defaults dd, called by name -/
structure CallOkD (P : Program) (w : World) (K : PySem.W.Frag) (mg : Str → Option Value) (base : Heap) (k : Nat) (x : Str) (ps : List Str) (dd : List D) (F : List D → Res D) : Prop where
  ok : ∃ f fd dvs dus, mg x = some (.ref f) ∧ PySem.W.keepIn K (.ref f) = true ∧ Vals dvs dus ∧ Binds K fd ps dus ∧ (∀ G, RepL K G dd dvs) ∧ FnOk P w K mg base (L2.CX P w) k f fd ps (spD K mg ps.length F)
structure CallOkND (P : Program) (w : World) (K : PySem.W.Frag) (mg : Str → Option Value) (base : Heap) (k : Nat) (x : Str) (ps : List Str) (dd : List D) (F : List D → Res D) : Prop where
  ok : ∃ f fd dvs dus, mg x = some (.ref f) ∧ PySem.W.keepIn K (.ref f) = true ∧ Vals dvs dus ∧ Binds K fd ps dus ∧ (∀ G, RepL K G dd dvs) ∧ FnOk P w K mg base (L2.CX P w) k f fd ps (spN K mg ps.length F)
theorem CallOkD.up {P : Program} {w : World} {K : PySem.W.Frag} {mg : Str → Option Value} {base : Heap} {j k : Nat} {x : Str} {ps : List Str} {dd : List D} {F : List D → Res D} (h : CallOkD P w K mg base j x ps dd F) (hjk : j ≤ k) : CallOkD P w K mg base k x ps dd F :=
  let ⟨f, fd, a, b, h1, h2, h3, h4, h5, h6⟩ := h.ok
  ⟨f, fd, a, b, h1, h2, h3, h4, h5, h6.mono hjk⟩
theorem CallOkND.up {P : Program} {w : World} {K : PySem.W.Frag} {mg : Str → Option Value} {base : Heap} {j k : Nat} {x : Str} {ps : List Str} {dd : List D} {F : List D → Res D} (h : CallOkND P w K mg base j x ps dd F) (hjk : j ≤ k) : CallOkND P w K mg base k x ps dd F :=
  let ⟨f, fd, a, b, h1, h2, h3, h4, h5, h6⟩ := h.ok
  ⟨f, fd, a, b, h1, h2, h3, h4, h5, h6.mono hjk⟩
section
variable {X : Cx} {W : WX} {ex : Expr} {es : List Expr} {pos : Pos}
end
section
variable {P : Program} {w : World} {K : PySem.W.Frag} {mg : Str → Option Value} {base : Heap} {x qual : Str} {params : Arguments} {body : List Stmt} {scope : Scope} {dvs : List V} {f : Addr} {fd : FuncData} {N ps : List Str} {k : Nat} {fb : Env → Out}
end
/-! ### methods without arguments that change their list -/
section
variable {X : Cx} {W : WX} {H0 : Bas} {G0 : Hp} {al : List Nat} {pos apos cpos p1 : Pos}
end
end DL

/-! errors as values: kept behind their clause, made, asked -/
namespace L2
open PySem PySem.Spec PyProof.Rows
section
variable {X : Cx} {pins : List (Addr × Obj)} {σ : St} {H : Hp} {s : Shared}
end
section
variable {X : Cx} {x n : Str} {c : Value} {i : Nat} {body suite : List Stmt} {b₀ : Stmt} {np pos pos' : Pos} {tb : WX → TS} {ts : Addr → Value → Option Addr → TS} {Wout : WX}
end
end L2
namespace DL
open PySem PySem.Spec PyProof.Rows L2
/-- classes by their names in the module -/
def NsTab (K : PySem.W.Frag) (mg : Str → Option Value) (h : String → Option Bool) : Prop := ∀ c cls, h c = some true → mg (Str.ofString c) = some cls → ∃ C, cls = .ref C ∧ PySem.W.nsIn K mainGlobals (Str.ofString c) = some (some (.ref C))
theorem NsTab.nil {K : PySem.W.Frag} {mg : Str → Option Value} : NsTab K mg (fun _ => none) := fun c cls h _ => by cases h
theorem NsTab.cons {K : PySem.W.Frag} {mg : Str → Option Value} {n : String} {C : Addr} {b : Bool} {f : String → Option Bool} (hm : mg (Str.ofString n) = some (.ref C)) (hn : PySem.W.nsIn K mainGlobals (Str.ofString n) = some (some (.ref C))) (t : NsTab K mg f) : NsTab K mg (fun s => if s = n then some b else f s) := fun c cls h hcl => by
  dsimp only at h
  by_cases hk : c = n
  · subst hk
    rw [hm] at hcl
    cases hcl
    exact ⟨C, rfl, hn⟩
  · rw [if_neg hk] at h
    exact t c cls h hcl
section
variable {X : Cx} {W : WX} {A : Nat → Prop} {pos p p1 p2 p3 : Pos} {H0 : Bas} {G0 : Hp}
/-! ### isinstance of an error held as a value -/
def ErrTab (K : PySem.W.Frag) (cv : Value) (t : String → Option Bool) : Prop := ∀ c b C, t c = some b → PySem.W.nsIn K mainGlobals (Str.ofString c) = some (some (.ref C)) → ExcC K C ∧ PySem.W.kitOne K (.ref C) cv = some b
theorem ErrTab.nil {K : PySem.W.Frag} {cv : Value} : ErrTab K cv (fun _ => none) := fun c b C h _ => by cases h
theorem ErrTab.cons {K : PySem.W.Frag} {cv : Value} {n : String} {C : Addr} {b : Bool} {f : String → Option Bool} (hn : PySem.W.nsIn K mainGlobals (Str.ofString n) = some (some (.ref C))) (hc : ExcC K C) (he : PySem.W.kitOne K (.ref C) cv = some b) (t : ErrTab K cv f) : ErrTab K cv (fun s => if s = n then some b else f s) := fun k b' C' h hcl => by
  dsimp only at h
  by_cases hk : k = n
  · subst hk
    rw [if_pos rfl] at h
    cases h
    rw [hn] at hcl
    cases hcl
    exact ⟨hc, he⟩
  · rw [if_neg hk] at h
    exact t k b' C' h hcl
end
end DL

/-! errors made as values; their fields -/
namespace L2
open PySem PySem.Spec PyProof.Rows
section
variable {X : Cx} {e : Expr} {es : List Expr} {ta : TA} {p pos : Pos}
end
end L2
namespace DL
open PySem PySem.Spec PyProof.Rows L2
section
variable {X : Cx} {W : WX} {A : Nat → Prop} {pos p p1 p2 p3 : Pos}
/-- which classes keep fields under this name, by the module's names -/
def FldNs (K : PySem.W.Frag) (n : Str) (t : String → Bool) : Prop := ∀ c C, t c = true → PySem.W.nsIn K mainGlobals (Str.ofString c) = some (some (.ref C)) → XfC K C ∧ PySem.W.findIn K (.ref C) n = some none
theorem FldNs.nil {K : PySem.W.Frag} {n : Str} : FldNs K n (fun _ => false) := fun c C h _ => by cases h
theorem FldNs.cons {K : PySem.W.Frag} {n : Str} {x : String} {C : Addr} {f : String → Bool} (hm : PySem.W.nsIn K mainGlobals (Str.ofString x) = some (some (.ref C))) (hx : XfC K C) (hn : PySem.W.findIn K (.ref C) n = some none) (t : FldNs K n f) : FldNs K n (fun s => if s = x then true else f s) := fun c C' h hcl => by
  dsimp only at h
  by_cases hk : c = x
  · subst hk
    rw [hm] at hcl
    cases hcl
    exact ⟨hx, hn⟩
  · rw [if_neg hk] at h
    exact t c C' h hcl
end
end DL

/-! shifts -/
namespace DL
open PySem PySem.Spec PyProof.Rows L2
open PySem.Builtin.Int (intBits)
section
variable {X : Cx} {W : WX}
end
end DL

/-! {k: v} with a key that is reckoned (a text) -/
namespace DL
open PySem PySem.Spec PyProof.Rows L2
open PySem.Builtin.Int (intBits)
section
variable {X : Cx} {W : WX} {A : Nat → Prop} {pos : Pos}
end
end DL

/-! a tuple times a number that may be nought -/
namespace L2
open PySem PySem.Spec PyProof.Rows
variable {X : Cx}
end L2
namespace DL
open PySem PySem.Spec PyProof.Rows L2
section
variable {X : Cx} {W : WX}
end
end DL

/-! list(d): the keys of a dict with row keys -/
namespace DL
open PySem PySem.Spec PyProof.Rows L2
section
variable {X : Cx} {W : WX}
def dListT : D → Res D
  | .dct true kvs => .ok (.lst (kvs.map (·.1)))
  | _ => .bad
/-- .. of a dict with number or text keys -/
def dListK : D → Res D
  | .dct false kvs => .ok (.lst (kvs.map (·.1)))
  | _ => .bad
theorem keys_repK {K : PySem.W.Frag} {G : Hp} : ∀ (l : List (Key × V)), RepL K G (l.map fun p => keyD p.1) (l.map fun p => kV p.1)
  | [] => rfl
  | (.inl i, v) :: l => ⟨_, _, rfl, rfl, keys_repK l⟩
  | (.inr x, v) :: l => ⟨_, _, rfl, rfl, keys_repK l⟩
theorem c1_listK (hc : X.calm = true) : Call1F X W (.type "list") dListK := by
  refine ⟨_, call_listD hc, fun σ H G x dx Q sg rx p => ?_⟩
  cases dx with
  | dct t kvs =>
    obtain ⟨a, rfl, h⟩ := rx
    rcases h with ⟨t0, ps, s, hkeys, rv⟩ | ⟨t0, ps, s, hkeys, rv⟩
    · subst t0
      refine ⟨a, ps, rfl, s, fun l hl => ?_⟩
      exact (show PostG X.K X.mg _ H G (Res.ok (D.lst (kvs.map (·.1)))) _ from p) (upd H l (.lst (ps.map fun kv => kV kv.1))) G ⟨Sub.upd hl, Sub.refl _, sg.trans (Sub.upd hl), fun b z => .inl z⟩ l hl (sg.free hl) ⟨_, upd_same, by rw [hkeys]; exact keys_repK ps⟩
    · subst t0; exact (show False from p).elim
  | _ => exact (show False from p).elim
end
end DL

namespace DL
open PySem PySem.Spec PyProof.Rows L2
/-! a set made of a list of rows (fewer than 64), sorted -/
section
variable {X : Cx} {W : WX} {A : Nat → Prop} {a : Expr} {p p2 q pos : Pos}
end
end DL

/-! for row in ..: g.setdefault(key, []).append(row): lists kept in a dict while it grows -/
namespace DL
open PySem PySem.Spec PyProof.Rows L2
def keyOf : D → Option Key
  | .int i => some (.inl i)
  | .str x => some (.inr x)
  | _ => none
theorem keyOf_rep {K : PySem.W.Frag} {G : Hp} {d : D} {v : V} {k : Key} (h : keyOf d = some k) (r : Rep K G d v) : v = kV k ∧ d = keyD k := by
  cases d with
  | int i => cases h; exact ⟨r, rfl⟩
  | str x => cases h; exact ⟨r, rfl⟩
  | _ => cases h
/-- one more in its group -/
def grpPut (m : List (Key × List D)) (k : Key) (d : D) : List (Key × List D) := match getG m k with
  | some ds => putG m k (ds ++ [d])
  | none => m ++ [(k, [d])]
/-- the groups: rows by what fk tells of them -/
def grpL (p : Pat) (fk : Env → Res D) (r : Nat) : List D → Env → List (Key × List D) → Option (Env × List (Key × List D))
  | [], e, m => some (e, m)
  | d :: ds, e, m => match p.bind d e with
    | .ok e1 => (match fk e1, e1[r]? with
      | .ok kd, some (some (row, false)) => (match keyOf kd with
        | some k => grpL p fk r ds e1 (grpPut m k row)
        | none => none)
      | _, _ => none)
    | _ => none
open Classical in
noncomputable def sGrp (g : Nat) (p : Pat) (fi : Env → Res (List D)) (fk : Env → Res D) (r : Nat) : Env → Out := sE [] fi (fun ds e => if e[g]? = some (some (.dct false [], true)) ∧ ds.length ≤ 100000 then (match grpL p fk r ds (e.set g none) [] with
    | some (e2, m) => .nx (e2.set g (some (.dct false (m.map fun q => (keyD q.1, D.lst q.2)), true)))
    | none => .bad) else .bad)
/-- what stands there while it grows: keys, the lists' places, what they hold -/
structure GrpI (K : PySem.W.Frag) (H0 : Bas) (σ : L2.St) (e : Env) (H G : Hp) (p : Addr) (T : List (Key × Addr × List D)) : Prop where
  dk : H p = some (.dK (T.map fun t => (t.1, V.ref t.2.1)))
  ks : (T.map (·.1)).Nodup
  as : (T.map (·.2.1)).Nodup
  ls : ∀ t ∈ T, ∃ vs, H t.2.1 = some (.lst vs) ∧ RepL K G t.2.2 vs ∧ G t.2.1 = none ∧ H0.hp t.2.1 = none
  ow : ∀ t ∈ T, ∀ (j : Nat) d, e[j]? = some (some (d, true)) → σ[j]? ≠ some (some (.ref t.2.1))
  pp : G p = none ∧ H0.hp p = none ∧ ∀ (j : Nat) d, e[j]? = some (some (d, true)) → σ[j]? ≠ some (some (.ref p))
section
variable {X : Cx} {W : WX} {H0 : Bas} {G0 : Hp} {K : PySem.W.Frag}
theorem StOk.env {σ : L2.St} {e : Env} {H G : Hp} (S : StOk K H0 G0 σ e H G) : EnvG K (fun i => i ∈ ([] : List Nat)) σ e H G := ⟨S.ext.gh, S.len, fun i d o h => by
  cases o with
  | false =>
    obtain ⟨v, h1, h2⟩ := S.sh i d h
    exact ⟨v, h1, fun _ => h2, h2.c S.ext.gh⟩
  | true =>
    obtain ⟨a, h1, _, _, h2⟩ := S.ow i d h
    exact ⟨_, h1, fun z => z.elim (fun z => nomatch z) (fun z => nomatch z), h2.c⟩⟩
theorem StOk.put {σ : L2.St} {e : Env} {H G : Hp} (S : StOk K H0 G0 σ e H G) {a : Addr} {o : HO} (h0 : H0.hp a = none) (h1 : G a = none) (h2 : ∀ (j : Nat) d, e[j]? = some (some (d, true)) → σ[j]? ≠ some (some (.ref a))) : StOk K H0 G0 σ e (upd H a o) G := by
  have ne : ∀ {M : Hp} {b : Addr} {u : HO}, M a = none → M b = some u → b ≠ a := fun h k z => by rw [z, h] at k; cases k
  refine ⟨⟨fun b u q => ?_, S.ext.gg, fun b u q => ?_, S.ext.new⟩, S.len, S.sh, fun j d h => ?_, S.ne, S.pn⟩
  · rw [upd_ne (ne h0 q)]; exact S.ext.hh _ _ q
  · rw [upd_ne (ne h1 q)]; exact S.ext.gh _ _ q
  · obtain ⟨b, q1, q2, q3, q4⟩ := S.ow j d h
    have hb : b ≠ a := fun z => h2 j d h (by rw [← z]; exact q1)
    exact ⟨b, q1, q2, q3, q4.mono' (fun u z => by rw [upd_ne hb]; exact z) (Sub.refl _)⟩
theorem repL_snoc {G : Hp} {d : D} {v : V} : ∀ {ds : List D} {vs : List V}, RepL K G ds vs → Rep K G d v → RepL K G (ds ++ [d]) (vs ++ [v])
  | [], vs, r, h => by rw [show vs = [] from r]; exact ⟨v, [], rfl, h, rfl⟩
  | _ :: ds, _, ⟨u, us, rfl, r1, r2⟩, h => ⟨u, us ++ [v], rfl, r1, repL_snoc r2 h⟩
theorem GrpI.ext {σ : L2.St} {e : Env} {H G H' G' : Hp} {p : Addr} {T : List (Key × Addr × List D)} (I : GrpI K H0 σ e H G p T) (x : Ext H G H' G') : GrpI K H0 σ e H' G' p T := by
  have no : ∀ {a : Addr} {o : HO}, H a = some o → G a = none → (∀ vs, o ≠ .tup vs) → G' a = none := fun {a o} h g n => by
    cases q : G' a with
    | none => rfl
    | some u =>
      rcases x.new a (by rw [q]; simp) with z | z | ⟨vs, z⟩
      · exact absurd g z
      · rw [h] at z; cases z
      · rw [h] at z; cases z; exact absurd rfl (n vs)
  refine ⟨x.hh _ _ I.dk, I.ks, I.as, fun t ht => ?_, I.ow, no I.dk I.pp.1 (fun vs z => nomatch z), I.pp.2⟩
  obtain ⟨vs, h1, h2, h3, h4⟩ := I.ls t ht
  exact ⟨vs, x.hh _ _ h1, h2.mono x.gg, no h1 h3 (fun vs z => nomatch z), h4⟩
theorem grp_get {T : List (Key × Addr × List D)} (k : Key) : (∃ t ∈ T, t.1 = k ∧ valV (T.map fun t => (t.1, V.ref t.2.1)) k = some (.ref t.2.1) ∧ getG (T.map fun t => (t.1, t.2.2)) k = some t.2.2) ∨
    (k ∉ T.map (·.1) ∧ valV (T.map fun t => (t.1, V.ref t.2.1)) k = none ∧ getG (T.map fun t => (t.1, t.2.2)) k = none) := by
  induction T with
  | nil => exact .inr ⟨by simp, rfl, rfl⟩
  | cons t T ih =>
    by_cases h : t.1 = k
    · refine .inl ⟨t, List.mem_cons_self, h, ?_, ?_⟩
      · rw [List.map_cons, valV_pos h]
      · unfold getG
        rw [List.map_cons, List.find?_cons, decide_eq_true h]
        rfl
    · have e1 : valV ((t :: T).map fun t => (t.1, V.ref t.2.1)) k = valV (T.map fun t => (t.1, V.ref t.2.1)) k := by rw [List.map_cons, valV_neg h]
      have e2 : getG ((t :: T).map fun t => (t.1, t.2.2)) k = getG (T.map fun t => (t.1, t.2.2)) k := by
        unfold getG
        rw [List.map_cons, List.find?_cons, decide_eq_false h]
      rcases ih with ⟨u, hu, x⟩ | ⟨hn, x⟩
      · exact .inl ⟨u, List.mem_cons_of_mem _ hu, by rw [e1, e2]; exact x⟩
      · exact .inr ⟨by rw [List.map_cons, List.mem_cons]; exact fun z => z.elim (fun z => h z.symm) hn, by rw [e1, e2]; exact x⟩
theorem nd_inj {α β : Type} {f : α → β} : ∀ {T : List α}, (T.map f).Nodup → ∀ {u w : α}, u ∈ T → w ∈ T → f u = f w → u = w
  | [], _, _, _, hu, _, _ => by cases hu
  | x :: T, nd, u, w, hu, hw, e => by
    rw [List.map_cons, List.nodup_cons] at nd
    rcases List.mem_cons.mp hu with h1 | h1 <;> rcases List.mem_cons.mp hw with h2 | h2
    · rw [h1, h2]
    · rw [h1] at e; exact absurd (List.mem_map.mpr ⟨w, h2, e.symm⟩) nd.1
    · rw [h2] at e; exact absurd (List.mem_map.mpr ⟨u, h1, e⟩) nd.1
    · exact nd_inj nd.2 h1 h2 e
/-- one row more -/
theorem GrpI.more {σ : L2.St} {e : Env} {H G : Hp} {p : Addr} {T : List (Key × Addr × List D)} (I : GrpI K H0 σ e H G p T) {t : Key × Addr × List D} (ht : t ∈ T) {vs : List V} (hv : H t.2.1 = some (.lst vs)) (rv : RepL K G t.2.2 vs) {d : D} {v : V} (r : Rep K G d v) :
    ∃ T', GrpI K H0 σ e (upd H t.2.1 (.lst (vs ++ [v]))) G p T' ∧ (T'.map fun t => (t.1, t.2.2)) = putG (T.map fun t => (t.1, t.2.2)) t.1 (t.2.2 ++ [d]) := by
  let f : Key × Addr × List D → Key × Addr × List D := fun u => if u.1 = t.1 then (u.1, u.2.1, t.2.2 ++ [d]) else u
  have f1 : ∀ u, (f u).1 = u.1 ∧ (f u).2.1 = u.2.1 := fun u => by
    show (if u.1 = t.1 then _ else u).1 = _ ∧ (if u.1 = t.1 then _ else u).2.1 = _
    split <;> exact ⟨rfl, rfl⟩
  have pa : p ≠ t.2.1 := fun z => by rw [z] at I; have := I.dk; rw [hv] at this; cases this
  have same : ∀ {u w : Key × Addr × List D}, u ∈ T → w ∈ T → u.1 = w.1 → u = w := fun hu hw e => nd_inj (f := fun t : Key × Addr × List D => t.1) I.ks hu hw e
  have samea : ∀ {u : Key × Addr × List D}, u ∈ T → u.2.1 = t.2.1 → u = t := fun hu e => nd_inj (f := fun t : Key × Addr × List D => t.2.1) I.as hu ht e
  refine ⟨T.map f, ⟨?_, ?_, ?_, fun u hu => ?_, fun u hu => ?_, I.pp⟩, ?_⟩
  · rw [upd_ne pa, I.dk, List.map_map]
    congr 2
    refine List.map_congr_left fun u _ => ?_
    show (u.1, V.ref u.2.1) = ((f u).1, V.ref (f u).2.1)
    rw [(f1 u).1, (f1 u).2]
  · rw [List.map_map, show (((fun t : Key × Addr × List D => t.1)) ∘ f) = fun t => t.1 from funext fun u => (f1 u).1]; exact I.ks
  · rw [List.map_map, show (((fun t : Key × Addr × List D => t.2.1)) ∘ f) = fun t => t.2.1 from funext fun u => (f1 u).2]; exact I.as
  · obtain ⟨w, hw, rfl⟩ := List.mem_map.mp hu
    rw [(f1 w).2]
    by_cases h : w.1 = t.1
    · have := same hw ht h
      subst this
      obtain ⟨_, _, _, h3, h4⟩ := I.ls w hw
      refine ⟨_, upd_same, ?_, h3, h4⟩
      show RepL K G (if w.1 = w.1 then (w.1, w.2.1, w.2.2 ++ [d]) else w).2.2 _
      rw [if_pos rfl]
      exact repL_snoc rv r
    · obtain ⟨us, h1, h2, h3, h4⟩ := I.ls w hw
      refine ⟨us, ?_, ?_, h3, h4⟩
      · rw [upd_ne (fun z => h (by rw [samea hw z]))]; exact h1
      · show RepL K G (if w.1 = t.1 then (w.1, w.2.1, t.2.2 ++ [d]) else w).2.2 _
        rw [if_neg h]; exact h2
  · obtain ⟨w, hw, rfl⟩ := List.mem_map.mp hu
    rw [(f1 w).2]
    exact I.ow w hw
  · unfold putG
    rw [if_pos (by
      refine List.any_eq_true.mpr ⟨(t.1, t.2.2), List.mem_map.mpr ⟨t, ht, rfl⟩, decide_eq_true rfl⟩), List.map_map, List.map_map]
    refine List.map_congr_left fun u hu => ?_
    show ((f u).1, (f u).2.2) = (if u.1 = t.1 then (u.1, t.2.2 ++ [d]) else (u.1, u.2.2))
    show ((if u.1 = t.1 then (u.1, u.2.1, t.2.2 ++ [d]) else u).1, (if u.1 = t.1 then (u.1, u.2.1, t.2.2 ++ [d]) else u).2.2) = _
    split <;> rfl
/-- a new group -/
theorem GrpI.fresh {σ : L2.St} {e : Env} {H G : Hp} {p : Addr} {T : List (Key × Addr × List D)} (S : StOk K H0 G0 σ e H G) (I : GrpI K H0 σ e H G p T) {k : Key} (hk : k ∉ T.map (·.1)) {l : Addr} (hl : H l = none) {d : D} {v : V} (r : Rep K G d v) :
    GrpI K H0 σ e (upd (upd (upd H l (.lst [])) p (.dK (putK (T.map fun t => (t.1, V.ref t.2.1)) k (.ref l)))) l (.lst [v])) G p (T ++ [(k, l, [d])]) := by
  have pl : p ≠ l := fun z => by rw [z] at I; have := I.dk; rw [hl] at this; cases this
  have al : ∀ t ∈ T, t.2.1 ≠ l := fun t ht z => by
    obtain ⟨vs, h1, _⟩ := I.ls t ht
    rw [z, hl] at h1; cases h1
  have ap : ∀ t ∈ T, t.2.1 ≠ p := fun t ht z => by
    obtain ⟨vs, h1, _⟩ := I.ls t ht
    rw [z, I.dk] at h1; cases h1
  have gl : G l = none := by
    cases q : G l with
    | none => rfl
    | some u => have := S.ext.gh _ _ q; rw [hl] at this; cases this
  have h0 : H0.hp l = none := by
    cases q : H0.hp l with
    | none => rfl
    | some u => have := S.ext.hh _ _ q; rw [hl] at this; cases this
  refine ⟨?_, ?_, ?_, fun t ht => ?_, fun t ht => ?_, I.pp⟩
  · rw [upd_ne pl, upd_same]
    unfold putK
    rw [if_neg (by
      intro z
      obtain ⟨q, hq, e⟩ := List.any_eq_true.mp z
      obtain ⟨t, ht, rfl⟩ := List.mem_map.mp hq
      exact hk (List.mem_map.mpr ⟨t, ht, of_decide_eq_true e⟩)), List.map_append]
    rfl
  · rw [List.map_append, List.nodup_append]
    exact ⟨I.ks, by simp, fun a ha b hb z => by
      rw [show b = k by simpa using hb] at z
      exact hk (z ▸ ha)⟩
  · rw [List.map_append, List.nodup_append]
    refine ⟨I.as, by simp, fun a ha b hb z => ?_⟩
    rw [show b = l by simpa using hb] at z
    obtain ⟨t, ht, e⟩ := List.mem_map.mp ha
    exact al t ht (by rw [e, z])
  · rcases List.mem_append.mp ht with ht | ht
    · obtain ⟨vs, h1, h2, h3, h4⟩ := I.ls t ht
      exact ⟨vs, by rw [upd_ne (al t ht), upd_ne (ap t ht), upd_ne (al t ht)]; exact h1, h2, h3, h4⟩
    · rw [List.mem_singleton.mp ht]
      exact ⟨[v], upd_same, ⟨v, [], rfl, r, rfl⟩, gl, h0⟩
  · rcases List.mem_append.mp ht with ht | ht
    · exact I.ow t ht
    · rw [List.mem_singleton.mp ht]
      intro j d' hj z
      obtain ⟨b, q1, _, _, q4⟩ := S.ow j d' hj
      rw [z] at q1
      cases q1
      exact q4.is hl
/-- where a name is stored by the target, the place of the groups stays -/
theorem gr_setable {sl : List Nat} {g : Nat} (hg : g ∉ sl) {p : Addr} {T : List (Key × Addr × List D)} : Setable K sl (fun σ e H G => StOk K H0 G0 σ e H G ∧ GrpI K H0 σ e H G p T ∧ σ[g]? = some (some (.ref p)) ∧ e[g]? = some none) := fun σ e H G i d v hi ⟨S, I, e1, e2⟩ r => by
  have ig : i ≠ g := fun z => hg (z ▸ hi)
  have back : ∀ {j : Nat} {d' : D}, (e.set i (some (d, false)))[j]? = some (some (d', true)) → e[j]? = some (some (d', true)) ∧ j ≠ i := fun {j d'} h => by
    rcases set_get h with ⟨_, z⟩ | ⟨z, h⟩
    · cases z
    · exact ⟨h, fun q => z q⟩
  have ow : ∀ {a : Addr}, (∀ (j : Nat) d', e[j]? = some (some (d', true)) → σ[j]? ≠ some (some (.ref a))) → ∀ (j : Nat) d', (e.set i (some (d, false)))[j]? = some (some (d', true)) → (σ.set i (some v))[j]? ≠ some (some (.ref a)) := fun {a} h j d' hj => by
    obtain ⟨h1, h2⟩ := back hj
    rw [List.getElem?_set_ne (fun z => h2 z.symm)]
    exact h j d' h1
  exact ⟨S.set i r, ⟨I.dk, I.ks, I.as, I.ls, fun t ht => ow (I.ow t ht), I.pp.1, I.pp.2.1, ow I.pp.2.2⟩, by rw [List.getElem?_set_ne ig]; exact e1, by rw [List.getElem?_set_ne ig]; exact e2⟩
/-- all is said: the lists are shared from here on -/
theorem GrpI.done {σ : L2.St} {e : Env} {H G : Hp} {g : Nat} {p : Addr} {T : List (Key × Addr × List D)} (I : GrpI K H0 σ e H G p T) (S : StOk K H0 G0 σ e H G) (hσ : σ[g]? = some (some (.ref p))) (hb : H0.pin g = none ∨ H0.pin g = some p) :
    ∃ G', StOk K H0 G0 σ (e.set g (some (.dct false (T.map fun t => (keyD t.1, D.lst t.2.2)), true))) H G' := by
  let G' : Hp := fun b => if b ∈ T.map (·.2.1) then H b else G b
  have yes : ∀ {b}, b ∈ T.map (·.2.1) → G' b = H b := fun h => if_pos h
  have no : ∀ {b}, b ∉ T.map (·.2.1) → G' b = G b := fun h => if_neg h
  have gn : ∀ {b}, b ∈ T.map (·.2.1) → G b = none ∧ H0.hp b = none := fun {b} h => by
    obtain ⟨t, ht, rfl⟩ := List.mem_map.mp h
    obtain ⟨vs, h1, h2, h3, h4⟩ := I.ls t ht
    exact ⟨h3, h4⟩
  have sg : Sub G G' := fun b o q => by
    by_cases h : b ∈ T.map (·.2.1)
    · rw [(gn h).1] at q; cases q
    · rw [no h]; exact q
  have gh : Sub G' H := fun b o q => by
    by_cases h : b ∈ T.map (·.2.1)
    · rw [yes h] at q; exact q
    · rw [no h] at q; exact S.ext.gh _ _ q
  have pT : p ∉ T.map (·.2.1) := fun h => by
    obtain ⟨t, ht, e⟩ := List.mem_map.mp h
    obtain ⟨vs, h1, _⟩ := I.ls t ht
    rw [e, I.dk] at h1; cases h1
  have gp : G' p = none := by rw [no pT]; exact I.pp.1
  have own : OwnC K H G' (.dct false (T.map fun t => (keyD t.1, D.lst t.2.2))) p := by
    refine .inl ⟨rfl, _, I.dk, by rw [List.map_map, List.map_map]; rfl, ?_⟩
    have gen : ∀ l : List (Key × Addr × List D), (∀ t ∈ l, t ∈ T) → RepV K G' (l.map fun t => (keyD t.1, D.lst t.2.2)) ((l.map fun t => (t.1, V.ref t.2.1)).map (·.2)) := by
      intro l
      induction l with
      | nil => intro _; rfl
      | cons t l ih =>
        intro h
        have ht := h t List.mem_cons_self
        obtain ⟨vs, h1, h2, h3, h4⟩ := I.ls t ht
        refine ⟨_, _, rfl, ⟨t.2.1, vs, rfl, SqL.of (by rw [yes (List.mem_map.mpr ⟨t, ht, rfl⟩)]; exact h1), h2.mono sg⟩, ih fun u hu => h u (List.mem_cons_of_mem _ hu)⟩
    exact gen T fun t ht => ht
  refine ⟨G', ⟨S.ext.hh, S.ext.gg.trans sg, gh, fun b h => ?_⟩, by rw [List.length_set]; exact S.len, fun j d h => ?_, fun j d h => ?_, fun j k d d' a h1 h2 h3 h4 => ?_, fun j a d hp h => ?_⟩
  · by_cases hb : b ∈ T.map (·.2.1)
    · exact .inr (.inl (gn hb).2)
    · rw [no hb] at h; exact S.ext.new b h
  · rcases set_get h with ⟨_, z⟩ | ⟨_, h⟩
    · cases z
    · obtain ⟨v, h1, h2⟩ := S.sh j d h
      exact ⟨v, h1, h2.mono sg⟩
  · rcases set_get h with ⟨z1, z2⟩ | ⟨_, h⟩
    · cases z2
      subst z1
      exact ⟨p, hσ, I.pp.2.1, gp, own⟩
    · obtain ⟨a, q1, q2, q3, q4⟩ := S.ow j d h
      refine ⟨a, q1, q2, ?_, q4.mono' (fun o z => z) sg⟩
      by_cases ha : a ∈ T.map (·.2.1)
      · obtain ⟨t, ht, e⟩ := List.mem_map.mp ha
        exact absurd (by rw [e]; exact q1) (I.ow t ht j d h)
      · rw [no ha]; exact q3
  · rcases set_get h1 with ⟨z1, _⟩ | ⟨z1, x1⟩ <;> rcases set_get h2 with ⟨z2, _⟩ | ⟨z2, x2⟩
    · rw [z1, z2]
    · subst z1
      rw [hσ] at h3
      cases h3
      exact absurd h4 (I.pp.2.2 k d' x2)
    · subst z2
      rw [hσ] at h4
      cases h4
      exact absurd h3 (I.pp.2.2 j d x1)
    · exact S.ne j k d d' a x1 x2 h3 h4
  · rcases set_get h with ⟨z1, _⟩ | ⟨_, h⟩
    · subst z1
      rcases hb with hb | hb <;> rw [hb] at hp <;> cases hp
      exact hσ
    · exact S.pn j a d hp h
/-- the one statement of the loop's body -/
theorem gr_step {σ : L2.St} {e : Env} {H G : Hp} {p : Addr} {T : List (Key × Addr × List D)} {g r : Nat} {fk : Env → Res D} {kd row : D} {k : Key} {Z : Ends}
    (S : StOk K H0 G0 σ e H G) (I : GrpI K H0 σ e H G p T) (hσ : σ[g]? = some (some (.ref p))) (hf : fk e = .ok kd) (hk : keyOf kd = some k) (hr : e[r]? = some (some (row, false))) (hl : T.length ≤ 200000) (hz : ∀ t ∈ T, t.2.2.length ≤ 200000) {mg : Str → Option Value} {W : WX}
    (q : ∀ H' G' T', StOk K H0 G0 σ e H' G' → GrpI K H0 σ e H' G' p T' → Ext H0.hp G0 H' G' → Sub G G' → (T'.map fun t => (t.1, t.2.2)) = grpPut (T.map fun t => (t.1, t.2.2)) k row → Z.nx σ H') :
    tDrop (tBM K "list" rAppend (tDSetd (tVar g) (tD K mg W (fun i => i ∈ ([] : List Nat)) fk) (tLst tNil)) (tCons (tVar r) tNil)) Z σ H := by
  refine ⟨_, hσ, p, rfl, .inl ⟨_, .inl I.dk⟩, e, G, S.env, ?_⟩
  rw [hf]
  intro H2 G2 x2 y ry
  obtain ⟨ey, ed⟩ := keyOf_rep hk ry
  have S2 := S.step x2
  have I2 := I.ext x2
  obtain ⟨vr, hvr, rr⟩ := S2.sh r row hr
  refine ⟨by simp, fun l hl2 => ?_⟩
  have pl : p ≠ l := fun z => by have := I2.dk; rw [z, hl2] at this; cases this
  refine ⟨T.map fun t => (t.1, V.ref t.2.1), k, by rw [upd_ne pl]; exact I2.dk, ey, by rw [List.length_map, PySem.sizeLine_eq]; omega, fun v hv => ?_, fun hn => ?_⟩
  · -- the group is there
    rcases grp_get (T := T) k with ⟨t, ht, tk, e1, e2⟩ | ⟨_, e1, _⟩
    · rw [hv] at e1
      cases e1
      obtain ⟨vs, h1, h2, h3, h4⟩ := I2.ls t ht
      have al : t.2.1 ≠ l := fun z => by rw [z, hl2] at h1; cases h1
      have gl : G2 l = none := by
        cases z : G2 l with
        | none => rfl
        | some u => have := S2.ext.gh _ _ z; rw [hl2] at this; cases this
      have x3 : Ext H2 G2 (upd H2 l (.lst [])) G2 := ⟨Sub.upd hl2, Sub.refl _, S2.ext.gh.trans (Sub.upd hl2), fun b z => .inl z⟩
      have S3 := S2.step x3
      have I3 := I2.ext x3
      have h1' : upd H2 l (.lst []) t.2.1 = some (.lst vs) := by rw [upd_ne al]; exact h1
      refine ⟨.inl ⟨rfl, vs, .inl (.inl h1')⟩, vr, hvr, t.2.1, vs, vr, rfl, rfl, h1', by rw [h2.length, PySem.sizeLine_eq]; have := hz t ht; omega, ?_⟩
      obtain ⟨T', I4, eT⟩ := I3.more ht h1' h2 rr
      have S4 := S3.put (o := .lst (vs ++ [vr])) h4 h3 (I.ow t ht)
      refine q _ G2 T' S4 I4 S4.ext x2.gg ?_
      rw [eT, tk]
      unfold grpPut
      rw [e2]
    · rw [hv] at e1; cases e1
  · -- a new one
    rcases grp_get (T := T) k with ⟨t, ht, tk, e1, e2⟩ | ⟨nk, _, e2⟩
    · rw [hn] at e1; cases e1
    · have lp : l ≠ p := fun z => pl z.symm
      refine ⟨.inl ⟨rfl, [], .inl (.inl (by rw [upd_ne lp]; exact upd_same))⟩, vr, hvr, l, [], vr, rfl, rfl, by rw [upd_ne lp]; exact upd_same, by rw [PySem.sizeLine_eq]; decide, ?_⟩
      have I4 := I2.fresh S2 nk hl2 rr
      have x3 : Ext H2 G2 (upd H2 l (.lst [])) G2 := ⟨Sub.upd hl2, Sub.refl _, S2.ext.gh.trans (Sub.upd hl2), fun b z => .inl z⟩
      have S3 := S2.step x3
      have gl : G2 l = none := by
        cases z : G2 l with
        | none => rfl
        | some u => have := S2.ext.gh _ _ z; rw [hl2] at this; cases this
      have h0 : H0.hp l = none := by
        cases z : H0.hp l with
        | none => rfl
        | some u => have := S2.ext.hh _ _ z; rw [hl2] at this; cases this
      have ol : ∀ (j : Nat) d, e[j]? = some (some (d, true)) → σ[j]? ≠ some (some (.ref l)) := fun j d hj z => by
        obtain ⟨b, q1, _, _, q4⟩ := S2.ow j d hj
        rw [z] at q1
        cases q1
        exact q4.is hl2
      have S4 := (S3.put (o := .dK (putK (T.map fun t => (t.1, V.ref t.2.1)) k (.ref l))) I2.pp.2.1 I2.pp.1 I.pp.2.2).put (o := .lst ([] ++ [vr])) h0 gl ol
      refine q _ G2 (T ++ [(k, l, [row])]) S4 I4 S4.ext x2.gg ?_
      rw [List.map_append]
      unfold grpPut
      rw [e2]
      rfl
theorem grpPut_len {m : List (Key × List D)} {k : Key} {d : D} {n : Nat} (h1 : m.length ≤ n) (h2 : ∀ q ∈ m, q.2.length ≤ n) : (grpPut m k d).length ≤ n + 1 ∧ ∀ q ∈ grpPut m k d, q.2.length ≤ n + 1 := by
  unfold grpPut
  cases e : getG m k with
  | none =>
    refine ⟨by rw [List.length_append]; simp; omega, fun q hq => ?_⟩
    rcases List.mem_append.mp hq with hq | hq
    · have := h2 q hq; omega
    · rw [List.mem_singleton.mp hq]; simp
  | some ds =>
    have hd : ds.length ≤ n := by
      unfold getG at e
      obtain ⟨q, hq, rfl⟩ := Option.map_eq_some_iff.mp e
      exact h2 q (List.mem_of_find?_eq_some hq)
    dsimp only
    unfold putG
    split
    · refine ⟨by rw [List.length_map]; omega, fun q hq => ?_⟩
      obtain ⟨u, hu, rfl⟩ := List.mem_map.mp hq
      split
      · rw [List.length_append]; simp; omega
      · have := h2 u hu; omega
    · refine ⟨by rw [List.length_append]; simp; omega, fun q hq => ?_⟩
      rcases List.mem_append.mp hq with hq | hq
      · have := h2 q hq; omega
      · rw [List.mem_singleton.mp hq, List.length_append]; simp; omega
theorem grpL_cons {p : Pat} {fk : Env → Res D} {r : Nat} {d : D} {ds : List D} {e : Env} {m : List (Key × List D)} {z : Env × List (Key × List D)} (h : grpL p fk r (d :: ds) e m = some z) :
    ∃ e1 kd row k, p.bind d e = .ok e1 ∧ fk e1 = .ok kd ∧ e1[r]? = some (some (row, false)) ∧ keyOf kd = some k ∧ grpL p fk r ds e1 (grpPut m k row) = some z := by
  unfold grpL at h
  split at h
  · next e1 he =>
    split at h
    · next kd row hf hr =>
      split at h
      · next k hk => exact ⟨e1, kd, row, k, he, hf, hr, hk, h⟩
      · cases h
    · cases h
  · cases h
theorem ds_grp {tg iter key : Expr} {gx rx : Str} {g r : Nat} {p : Pat} {fi : Env → Res (List D)} {fk : Env → Res D} {p1 p2 p3 p4 p5 p6 p7 p8 pos : Pos} (hp : PassesOwn (model X.prog X.w) X.A X.env X.xe) (hc : X.calm = true)
    (hi : DI X W (fun i => i ∈ ([] : List Nat)) tg iter fi) (hg : DG X tg p) (hgp : g ∉ p.slots) (hpin : ∀ a, H0.pin g ≠ some a) (hk : DE X W (fun i => i ∈ ([] : List Nat)) key fk)
    (hNg : X.N[g]? = some gx) (hvg : Vis X.env.scope gx) (hNr : X.N[r]? = some rx) (hvr : Vis X.env.scope rx) (dg : (gx == ("__debug__" : Str)) = false := by decide) (cg : (gx == ("__classdict__" : Str)) = false := by decide) (drx : (rx == ("__debug__" : Str)) = false := by decide) (crx : (rx == ("__classdict__" : Str)) = false := by decide)
    (m2 : M2 X (.Name gx p1) "setdefault" p2 key (.List [] p3) p4 := by exact ⟨rfl, rfl, rfl, rfl⟩)
    (hbase : attributeBase (.Call (.Attribute (.Name gx p1) "setdefault" p2) [key, .List [] p3] [] p4) "append" X.env (eval (.Call (.Attribute (.Name gx p1) "setdefault" p2) [key, .List [] p3] [] p4) X.env) = eval (.Call (.Attribute (.Name gx p1) "setdefault" p2) [key, .List [] p3] [] p4) X.env := by rfl)
    (hline : (p5.endLine == p7.line) = true := by rfl)
    (hsw : swapsWith (.Call (.Attribute (.Call (.Attribute (.Name gx p1) "setdefault" p2) [key, .List [] p3] [] p4) "append" p5) [.Name rx p6] [] p7) none p8.line X.env = pure false := by rfl)
    (hs : ∀ x, foldedSetIterable iter X.env x = pure x := by intro _; rfl) :
    DS X W H0 G0 (.For tg iter [.Expr (.Call (.Attribute (.Call (.Attribute (.Name gx p1) "setdefault" p2) [key, .List [] p3] [] p4) "append" p5) [.Name rx p6] [] p7) p8] [] pos) (sGrp g p fi fk r) := by
  obtain ⟨gt, g1, g2⟩ := hg
  have hb : PSs X [.Expr (.Call (.Attribute (.Call (.Attribute (.Name gx p1) "setdefault" p2) [key, .List [] p3] [] p4) "append" p5) [.Name rx p6] [] p7) p8] _ :=
    pss_one (ps_expr (pe_bm PySem.F.plainAttrs_list PySem.F.slot_list_append PySem.F.type_list_append mt_append (pe_dsetd (pe_var hNg hvg dg cg) hk (pe_lst pa_nil) m2) (pa_cons (pe_var hNr hvr drx crx) pa_nil) hbase rfl hline rfl rfl) hsw)
  refine (ps_for hp hc hi g1 hb hs).lk fun Z σ H hq => (sE_step hq).imp fun H ⟨e, G, E, pp1⟩ => ?_
  refine ⟨e, G, E, pp1.imp fun ds H1 G1 x1 ⟨S1, q1⟩ J w => ?_⟩
  by_cases hcnd : (fz [] e)[g]? = some (some (.dct false [], true)) ∧ ds.length ≤ 100000
  case neg => rw [if_neg hcnd] at q1; exact q1.elim
  rw [if_pos hcnd] at q1
  obtain ⟨heg, hds⟩ := hcnd
  obtain ⟨p0, hσ, h0, hG, own⟩ := S1.ow g _ heg
  have hdk : H1 p0 = some (.dK []) := by
    rcases own with ⟨_, ps, hH, hkeys, _⟩ | ⟨z, _⟩
    · have : ps = [] := by
        have := congrArg List.length hkeys
        rw [List.length_map, List.length_map] at this
        exact List.length_eq_zero_iff.mp this.symm
      rw [this] at hH; exact hH
    · cases z
  have hpn : H0.pin g = none := by
    cases z : H0.pin g with
    | none => rfl
    | some a => exact absurd z (hpin a)
  have Sa := S1.lose g
  have glt : g < (fz [] e).length := (List.getElem?_eq_some_iff.mp heg).1
  have I0 : GrpI X.K H0 σ ((fz [] e).set g none) H1 G1 p0 [] := ⟨hdk, by simp, by simp, fun t ht => (by cases ht), fun t ht => (by cases ht), hG, h0, fun j d hj z => by
    rcases set_get hj with ⟨_, y⟩ | ⟨y, hj⟩
    · cases y
    · exact y (S1.ne j g _ _ p0 hj heg z hσ)⟩
  -- what holds between the turns
  refine ⟨fun i m σ2 H2 => m = ds.length - i ∧ i ≤ ds.length ∧ ∃ e2 G2 T, StOk X.K H0 G0 σ2 e2 H2 G2 ∧ GrpI X.K H0 σ2 e2 H2 G2 p0 T ∧ σ2[g]? = some (some (.ref p0)) ∧ e2[g]? = some none ∧ Sub G1 G2 ∧ T.length ≤ i ∧ (∀ t ∈ T, t.2.2.length ≤ i) ∧
      SPost X.K X.mg W H0 G0 (match grpL p fk r (ds.drop i) e2 (T.map fun t => (t.1, t.2.2)) with
        | some (e2, m) => .nx (e2.set g (some (.dct false (m.map fun q => (keyD q.1, D.lst q.2)), true)))
        | none => .bad) Z,
    ⟨ds.length, rfl, Nat.zero_le _, _, G1, [], Sa, I0, hσ, by rw [List.getElem?_set_self glt], Sub.refl _, Nat.le_refl _, fun t ht => (by cases ht), q1⟩, ?_⟩
  rintro i m σ2 H2 ⟨rfl, hi, e2, G2, T, S2, I2, hσ2, he2, g12, tl, tr, q2⟩
  by_cases hlt : i < ds.length
  · refine .inr ⟨w.go H2 i (g12.trans S2.ext.gh) hlt, fun σ3 H3 => ∃ e3 G3 T3, StOk X.K H0 G0 σ3 e3 H3 G3 ∧ GrpI X.K H0 σ3 e3 H3 G3 p0 T3 ∧ σ3[g]? = some (some (.ref p0)) ∧ e3[g]? = some none ∧ Sub G1 G3 ∧ T3.length ≤ i + 1 ∧ (∀ t ∈ T3, t.2.2.length ≤ i + 1) ∧
      SPost X.K X.mg W H0 G0 (match grpL p fk r (ds.drop (i + 1)) e3 (T3.map fun t => (t.1, t.2.2)) with
        | some (e2, m) => .nx (e2.set g (some (.dct false (m.map fun q => (keyD q.1, D.lst q.2)), true)))
        | none => .bad) Z, ?_, ?_⟩
    · rintro σ3 H3 ⟨e3, G3, T3, S3, x⟩
      exact ⟨ds.length - (i + 1), by omega, rfl, hlt, e3, G3, T3, S3, x⟩
    · intro x H3 y
      obtain ⟨d, G3, hd, x3, rd⟩ := w.yld H2 G2 i x H3 (g12.trans S2.ext.gh) g12 S2.ext.gh hlt y
      have S3 := S2.step x3
      have I3 := I2.ext x3
      have e0 : ds.drop i = d :: ds.drop (i + 1) := by
        rw [List.drop_eq_getElem_cons hlt]
        have : ds[i] = d := by
          have := List.getElem?_eq_getElem hlt
          rw [hd] at this
          exact (Option.some.inj this).symm
        rw [this]
      rw [e0] at q2
      cases hz : grpL p fk r (d :: ds.drop (i + 1)) e2 (T.map fun t => (t.1, t.2.2)) with
      | none => rw [hz] at q2; exact q2.elim
      | some z =>
        rw [hz] at q2
        obtain ⟨e3, kd, row, k, hb, hf, hr, hkk, hrest⟩ := grpL_cons hz
        refine g2 _ (gr_setable hgp) x σ2 H3 G3 d e2 e3 _ ⟨S3, I3, hσ2, he2⟩ S3.ext.gh rd hb fun σ4 ⟨S4, I4, hσ4, he4⟩ => ?_
        refine gr_step S4 I4 hσ4 hf hkk hr (by omega) (fun t ht => by have := tr t ht; omega) fun H' G' T' S5 I5 _ sgg eT => ?_
        have hl := grpPut_len (m := T.map fun t => (t.1, t.2.2)) (k := k) (d := row) (n := i) (by rw [List.length_map]; exact tl) fun q hq => by
          obtain ⟨t, ht, rfl⟩ := List.mem_map.mp hq
          exact tr t ht
        rw [← eT] at hl hrest
        refine ⟨e3, G', T', S5, I5, hσ4, he4, (g12.trans x3.gg).trans sgg, by have := hl.1; rwa [List.length_map] at this, fun t ht => hl.2 (t.1, t.2.2) (List.mem_map.mpr ⟨t, ht, rfl⟩), ?_⟩
        rw [hrest]
        exact q2
  · have ei : i = ds.length := by omega
    subst ei
    refine .inl ⟨w.stop H2 (g12.trans S2.ext.gh), ?_⟩
    rw [List.drop_length] at q2
    obtain ⟨G', Sd⟩ := I2.done S2 hσ2 (.inl hpn)
    refine q2 σ2 H2 G' ?_
    rw [List.map_map]
    exact Sd
end
end DL

/-! max and min of a list, by a comparison that looks at the heap -/
namespace DL
open PySem PySem.Spec PyProof.Rows L2
open Sem (wp)
def Kept (h0 h : Heap) : Prop := ∀ b o, h0.get? b = some o → h.get? b = some o
/-- the comparison, as long as what was there stays -/
def CmpAt (prog : Program) (w : World) (A : Around) (op : CmpOp) (h0 : Heap) (P : Nat → Value → Prop) (bt : Nat → Nat → Bool) : Prop :=
  ∀ i j u v (s : Shared) (Q E : Value → Shared → Prop), P i u → P j v → Kept h0 s.heap → Q (.bool (bt i j)) s → wpAny (model prog w) A (richCompare op u v) Q E s
section
variable {prog : Program} {w : World} {A : Around} {R : Result → Shared → Prop} {I : Addr} {fp wr : List Addr} {n : Nat} {P : Nat → Value → Prop} {St : Nat → Heap → Prop}
theorem maxat_loop (W : Walks prog w A.in1 I fp wr n P St) {bt : Nat → Nat → Bool} {h0 : Heap} (hc : CmpAt prog w A.in1 .Gt h0 P bt) (hw : ∀ b ∈ wr, h0.get? b = none) {S : Addr} (hS0 : h0.get? S = none) (hSf : S ∉ fp) (k : Nat) :
    ∀ (j : Nat) (s : Shared) (best : Value) (c : Nat), n = j + 1 + k → St (j + 1) s.heap → P (argBest bt j) best → s.heap.get? S = some ⟨.type "list", none, .seq #[best, best] c, #[]⟩ → Kept h0 s.heap →
      (∀ v h2 tk, P (argBest bt (n - 1)) v → Kept h0 h2 → R (.ok (.ret v)) { s with heap := h2, toks := tk }) → codeAny (model prog w) A (.builtin "max.loop" ⟨[.ref I, .none, .ref S], []⟩) R s := by
  have hn : (toString "max" ++ toString ".loop" : String) = "max.loop" := by decide
  have Sw : S ∉ wr := fun z => hSf (W.sub S z)
  have stays : ∀ {h1 h2 : Heap}, Kept h0 h1 → (∀ b o, b ∉ wr → h1.get? b = some o → h2.get? b = some o) → Kept h0 h2 := fun k1 k2 b o z => k2 b o (fun y => by rw [hw b y] at z; cases z) (k1 b o z)
  have other : ∀ {h1 : Heap} {g : Array Value → Array Value} {o2 : Obj → Obj}, Kept h0 h1 → Kept h0 (h1.update S o2) := fun {h1 g o2} k1 b o z => (Heap.get?_update_other _ _ (fun y : S = b => by rw [← y, hS0] at z; cases z)).trans (k1 b o z)
  induction k with
  | zero =>
    intro j s best c e st hb atS kp fin
    refine codeAny_builtin F.entry_max_loop ?_
    rw [Around.under_plainId F.plain_max_loop _]
    show wpAny _ A.in1 (seqItems? (.ref S) >>= _) _ _ s
    refine wpAny_bind (wpAny_seqItems atS rfl ?_); show wpAny _ A.in1 (tryCatch (pyNext (.ref I)) _ >>= _) _ _ s
    refine wpAny_bind (wpAny_tryCatch (W.done s _ _ (by rw [e]; exact st) fun h2 tk kp2 => ?_))
    have atS2 := kp2 S _ Sw atS; show wpAny _ A.in1 (updateSeq S (fun _ => #[]) >>= _) _ _ _
    refine wpAny_bind (wpAny_updateSeq atS2 rfl (wpAny_bind (wpAny_letGo (wpAny_pure ?_))))
    exact fin best _ tk (by rw [e]; exact hb) (other (g := id) (stays kp kp2))
  | succ k ih =>
    intro j s best c e st hb atS kp fin
    refine codeAny_builtin F.entry_max_loop ?_
    rw [Around.under_plainId F.plain_max_loop _]
    show wpAny _ A.in1 (seqItems? (.ref S) >>= _) _ _ s
    refine wpAny_bind (wpAny_seqItems atS rfl ?_); show wpAny _ A.in1 (tryCatch (pyNext (.ref I)) _ >>= _) _ _ s
    refine wpAny_bind (wpAny_tryCatch (W.item (j + 1) s _ _ (by omega) st fun v h2 tk hv st2 kp2 => ?_))
    have atS2 := kp2 S _ Sw atS
    have kpt := stays kp kp2; show wpAny _ A.in1 (tryCatch (holding [v, v] (richCompare .Gt v best >>= _)) _ >>= _) _ _ _
    refine wpAny_bind (wpAny_tryCatch (wpAny_holding (wpAny_bind (hc (j + 1) (argBest bt j) v best _ _ _ hv hb kpt ?_))))
    refine wpAny_bind (wpAny_holding (wpAny_truthy_bool (wpAny_bind (wpAny_letGo (wpAny_pure ?_)))))
    cases q : bt (j + 1) (argBest bt j) with
    | true =>
      rw [if_pos rfl]
      refine wpAny_bind (wpAny_updateSeq atS2 rfl (wpAny_bind (wpAny_letGo ?_)))
      rw [hn]
      refine wpAny_pure ⟨plainId_quiet F.plain_max_loop _, ih (j + 1) _ v _ (by omega) (W.frame _ _ _ st2 fun b y o z => (Heap.get?_update_other _ _ (fun x : S = b => hSf (x ▸ y))).trans z) (by rw [argBest, q, if_pos rfl]; exact hv) (Heap.get?_update_self _ atS2 rfl) (other (g := id) kpt) fun v3 h3 tk3 y z => fin v3 h3 tk3 y z⟩
    | false =>
      rw [if_neg (by simp)]
      refine wpAny_bind (wpAny_letGo ?_)
      rw [hn]
      exact wpAny_pure ⟨plainId_quiet F.plain_max_loop _, ih (j + 1) _ best c (by omega) st2 (by rw [argBest, q, if_neg (by simp)]; exact hb) atS2 kpt fun v3 h3 tk3 y z => fin v3 h3 tk3 y z⟩
theorem maxat_call {x : Value} {s : Shared} {E : Value → Shared → Prop} {Q : Value → Shared → Prop} (h : wpAny (model prog w) A.in1 (pyIter x) (fun it s2 => ∃ I fp wr n P St bt h0, it = .ref I ∧ Walks prog w A.in1 I fp wr n P St ∧ St 0 s2.heap ∧ (∀ b ∈ fp, b < s2.heap.objs.size) ∧ 0 < n ∧ CmpAt prog w A.in1 .Gt h0 P bt ∧ (∀ b ∈ wr, h0.get? b = none) ∧ Kept h0 s2.heap ∧
      (∀ v h2 tk, P (argBest bt (n - 1)) v → Kept h0 h2 → Q v { s2 with heap := h2, toks := tk })) E s) : wpAny (model prog w) A (call (.builtin "max") [x]) Q E s := by
  have hn : (toString "max" ++ toString ".loop" : String) = "max.loop" := by decide
  refine call_function_tree F.kind_max F.plain_max F.entry_max (F.args_max1 _) ?_
  show wpAny _ A.in1 (Builtin.Builtins.bindParams "max" ["key", "default"] 0 ⟨[], []⟩ >>= _) _ _ s
  refine wpAny_bind (wpAny_of_eq (show Builtin.Builtins.bindParams "max" ["key", "default"] 0 ⟨[], []⟩ = pure [none, none] from rfl) (wpAny_bind (wpAny_pure ?_)))
  refine wpAny_bind (wpAny_mono h (fun it s2 h2 => ?_) fun _ _ e => e)
  obtain ⟨I, fp, wr, n, P, St, bt, h0, rfl, W, st, hfp, np, hc, hw, kp, fin⟩ := h2
  refine wpAny_bind (wpAny_newObj_type ?_)
  have Sf : s2.heap.objs.size ∉ fp := fun z => Nat.lt_irrefl _ (hfp _ z)
  have S0 : h0.get? s2.heap.objs.size = none := by
    cases z : h0.get? s2.heap.objs.size with
    | none => rfl
    | some o => exact absurd (Heap.lt_size (kp _ _ z)) (Nat.lt_irrefl _)
  rw [hn]
  refine wpAny_pure ⟨plainId_quiet F.plain_max_loop _, ?_⟩
  have st1 := W.frame _ _ _ st fun b _ o z => Heap.get?_push_of_some ⟨.type "list", none, .seq #[] 0, #[]⟩ z
  have atS : (s2.heap.push ⟨.type "list", none, .seq #[] 0, #[]⟩).get? s2.heap.objs.size = some ⟨.type "list", none, .seq #[] 0, #[]⟩ := Heap.get?_push_size _ rfl
  have kp1 : Kept h0 (s2.heap.push ⟨.type "list", none, .seq #[] 0, #[]⟩) := fun b o z => Heap.get?_push_of_some _ (kp b o z)
  refine codeAny_builtin F.entry_max_loop ?_
  rw [Around.under_plainId F.plain_max_loop _]
  show wpAny _ A.in1 (seqItems? (.ref s2.heap.objs.size) >>= _) _ _ _
  refine wpAny_bind (wpAny_seqItems atS rfl ?_); show wpAny _ A.in1 (tryCatch (pyNext (.ref I)) _ >>= _) _ _ _
  refine wpAny_bind (wpAny_tryCatch (W.item 0 _ _ _ np st1 fun v h3 tk hv st3 kp3 => ?_))
  have Sw : s2.heap.objs.size ∉ wr := fun z => Sf (W.sub _ z)
  have atS3 := kp3 _ _ Sw atS; show wpAny _ A.in1 (updateSeq s2.heap.objs.size (fun _ => #[v, v]) >>= _) _ _ _
  refine wpAny_bind (wpAny_updateSeq atS3 rfl ?_)
  rw [hn]
  have kpt : Kept h0 h3 := fun b o z => kp3 b o (fun y => by rw [hw b y] at z; cases z) (kp1 b o z)
  refine wpAny_pure ⟨plainId_quiet F.plain_max_loop _, maxat_loop W hc hw S0 Sf (n - 1) 0 _ v _ (by omega) (W.frame _ _ _ st3 fun b y o z => (Heap.get?_update_other _ _ (fun x : s2.heap.objs.size = b => Sf (x ▸ y))).trans z) hv (Heap.get?_update_self _ atS3 rfl)
    (fun b o z => (Heap.get?_update_other _ _ (fun y : s2.heap.objs.size = b => by rw [← y, S0] at z; cases z)).trans (kpt b o z)) fun v3 h4 tk3 y z => fin v3 h4 tk3 y z⟩
theorem minat_loop (W : Walks prog w A.in1 I fp wr n P St) {bt : Nat → Nat → Bool} {h0 : Heap} (hc : CmpAt prog w A.in1 .Lt h0 P bt) (hw : ∀ b ∈ wr, h0.get? b = none) {S : Addr} (hS0 : h0.get? S = none) (hSf : S ∉ fp) (k : Nat) :
    ∀ (j : Nat) (s : Shared) (best : Value) (c : Nat), n = j + 1 + k → St (j + 1) s.heap → P (argBest bt j) best → s.heap.get? S = some ⟨.type "list", none, .seq #[best, best] c, #[]⟩ → Kept h0 s.heap →
      (∀ v h2 tk, P (argBest bt (n - 1)) v → Kept h0 h2 → R (.ok (.ret v)) { s with heap := h2, toks := tk }) → codeAny (model prog w) A (.builtin "min.loop" ⟨[.ref I, .none, .ref S], []⟩) R s := by
  have hn : (toString "min" ++ toString ".loop" : String) = "min.loop" := by decide
  have Sw : S ∉ wr := fun z => hSf (W.sub S z)
  have stays : ∀ {h1 h2 : Heap}, Kept h0 h1 → (∀ b o, b ∉ wr → h1.get? b = some o → h2.get? b = some o) → Kept h0 h2 := fun k1 k2 b o z => k2 b o (fun y => by rw [hw b y] at z; cases z) (k1 b o z)
  have other : ∀ {h1 : Heap} {g : Array Value → Array Value} {o2 : Obj → Obj}, Kept h0 h1 → Kept h0 (h1.update S o2) := fun {h1 g o2} k1 b o z => (Heap.get?_update_other _ _ (fun y : S = b => by rw [← y, hS0] at z; cases z)).trans (k1 b o z)
  induction k with
  | zero =>
    intro j s best c e st hb atS kp fin
    refine codeAny_builtin F.entry_min_loop ?_
    rw [Around.under_plainId F.plain_min_loop _]
    show wpAny _ A.in1 (seqItems? (.ref S) >>= _) _ _ s
    refine wpAny_bind (wpAny_seqItems atS rfl ?_); show wpAny _ A.in1 (tryCatch (pyNext (.ref I)) _ >>= _) _ _ s
    refine wpAny_bind (wpAny_tryCatch (W.done s _ _ (by rw [e]; exact st) fun h2 tk kp2 => ?_))
    have atS2 := kp2 S _ Sw atS; show wpAny _ A.in1 (updateSeq S (fun _ => #[]) >>= _) _ _ _
    refine wpAny_bind (wpAny_updateSeq atS2 rfl (wpAny_bind (wpAny_letGo (wpAny_pure ?_))))
    exact fin best _ tk (by rw [e]; exact hb) (other (g := id) (stays kp kp2))
  | succ k ih =>
    intro j s best c e st hb atS kp fin
    refine codeAny_builtin F.entry_min_loop ?_
    rw [Around.under_plainId F.plain_min_loop _]
    show wpAny _ A.in1 (seqItems? (.ref S) >>= _) _ _ s
    refine wpAny_bind (wpAny_seqItems atS rfl ?_); show wpAny _ A.in1 (tryCatch (pyNext (.ref I)) _ >>= _) _ _ s
    refine wpAny_bind (wpAny_tryCatch (W.item (j + 1) s _ _ (by omega) st fun v h2 tk hv st2 kp2 => ?_))
    have atS2 := kp2 S _ Sw atS
    have kpt := stays kp kp2; show wpAny _ A.in1 (tryCatch (holding [v, v] (richCompare .Lt v best >>= _)) _ >>= _) _ _ _
    refine wpAny_bind (wpAny_tryCatch (wpAny_holding (wpAny_bind (hc (j + 1) (argBest bt j) v best _ _ _ hv hb kpt ?_))))
    refine wpAny_bind (wpAny_holding (wpAny_truthy_bool (wpAny_bind (wpAny_letGo (wpAny_pure ?_)))))
    cases q : bt (j + 1) (argBest bt j) with
    | true =>
      rw [if_pos rfl]
      refine wpAny_bind (wpAny_updateSeq atS2 rfl (wpAny_bind (wpAny_letGo ?_)))
      rw [hn]
      refine wpAny_pure ⟨plainId_quiet F.plain_min_loop _, ih (j + 1) _ v _ (by omega) (W.frame _ _ _ st2 fun b y o z => (Heap.get?_update_other _ _ (fun x : S = b => hSf (x ▸ y))).trans z) (by rw [argBest, q, if_pos rfl]; exact hv) (Heap.get?_update_self _ atS2 rfl) (other (g := id) kpt) fun v3 h3 tk3 y z => fin v3 h3 tk3 y z⟩
    | false =>
      rw [if_neg (by simp)]
      refine wpAny_bind (wpAny_letGo ?_)
      rw [hn]
      exact wpAny_pure ⟨plainId_quiet F.plain_min_loop _, ih (j + 1) _ best c (by omega) st2 (by rw [argBest, q, if_neg (by simp)]; exact hb) atS2 kpt fun v3 h3 tk3 y z => fin v3 h3 tk3 y z⟩
theorem minat_call {x : Value} {s : Shared} {E : Value → Shared → Prop} {Q : Value → Shared → Prop} (h : wpAny (model prog w) A.in1 (pyIter x) (fun it s2 => ∃ I fp wr n P St bt h0, it = .ref I ∧ Walks prog w A.in1 I fp wr n P St ∧ St 0 s2.heap ∧ (∀ b ∈ fp, b < s2.heap.objs.size) ∧ 0 < n ∧ CmpAt prog w A.in1 .Lt h0 P bt ∧ (∀ b ∈ wr, h0.get? b = none) ∧ Kept h0 s2.heap ∧
      (∀ v h2 tk, P (argBest bt (n - 1)) v → Kept h0 h2 → Q v { s2 with heap := h2, toks := tk })) E s) : wpAny (model prog w) A (call (.builtin "min") [x]) Q E s := by
  have hn : (toString "min" ++ toString ".loop" : String) = "min.loop" := by decide
  refine call_function_tree F.kind_min F.plain_min F.entry_min (F.args_min1 _) ?_
  show wpAny _ A.in1 (Builtin.Builtins.bindParams "min" ["key", "default"] 0 ⟨[], []⟩ >>= _) _ _ s
  refine wpAny_bind (wpAny_of_eq (show Builtin.Builtins.bindParams "min" ["key", "default"] 0 ⟨[], []⟩ = pure [none, none] from rfl) (wpAny_bind (wpAny_pure ?_)))
  refine wpAny_bind (wpAny_mono h (fun it s2 h2 => ?_) fun _ _ e => e)
  obtain ⟨I, fp, wr, n, P, St, bt, h0, rfl, W, st, hfp, np, hc, hw, kp, fin⟩ := h2
  refine wpAny_bind (wpAny_newObj_type ?_)
  have Sf : s2.heap.objs.size ∉ fp := fun z => Nat.lt_irrefl _ (hfp _ z)
  have S0 : h0.get? s2.heap.objs.size = none := by
    cases z : h0.get? s2.heap.objs.size with
    | none => rfl
    | some o => exact absurd (Heap.lt_size (kp _ _ z)) (Nat.lt_irrefl _)
  rw [hn]
  refine wpAny_pure ⟨plainId_quiet F.plain_min_loop _, ?_⟩
  have st1 := W.frame _ _ _ st fun b _ o z => Heap.get?_push_of_some ⟨.type "list", none, .seq #[] 0, #[]⟩ z
  have atS : (s2.heap.push ⟨.type "list", none, .seq #[] 0, #[]⟩).get? s2.heap.objs.size = some ⟨.type "list", none, .seq #[] 0, #[]⟩ := Heap.get?_push_size _ rfl
  have kp1 : Kept h0 (s2.heap.push ⟨.type "list", none, .seq #[] 0, #[]⟩) := fun b o z => Heap.get?_push_of_some _ (kp b o z)
  refine codeAny_builtin F.entry_min_loop ?_
  rw [Around.under_plainId F.plain_min_loop _]
  show wpAny _ A.in1 (seqItems? (.ref s2.heap.objs.size) >>= _) _ _ _
  refine wpAny_bind (wpAny_seqItems atS rfl ?_); show wpAny _ A.in1 (tryCatch (pyNext (.ref I)) _ >>= _) _ _ _
  refine wpAny_bind (wpAny_tryCatch (W.item 0 _ _ _ np st1 fun v h3 tk hv st3 kp3 => ?_))
  have Sw : s2.heap.objs.size ∉ wr := fun z => Sf (W.sub _ z)
  have atS3 := kp3 _ _ Sw atS; show wpAny _ A.in1 (updateSeq s2.heap.objs.size (fun _ => #[v, v]) >>= _) _ _ _
  refine wpAny_bind (wpAny_updateSeq atS3 rfl ?_)
  rw [hn]
  have kpt : Kept h0 h3 := fun b o z => kp3 b o (fun y => by rw [hw b y] at z; cases z) (kp1 b o z)
  refine wpAny_pure ⟨plainId_quiet F.plain_min_loop _, minat_loop W hc hw S0 Sf (n - 1) 0 _ v _ (by omega) (W.frame _ _ _ st3 fun b y o z => (Heap.get?_update_other _ _ (fun x : s2.heap.objs.size = b => Sf (x ▸ y))).trans z) hv (Heap.get?_update_self _ atS3 rfl)
    (fun b o z => (Heap.get?_update_other _ _ (fun y : s2.heap.objs.size = b => by rw [← y, S0] at z; cases z)).trans (kpt b o z)) fun v3 h4 tk3 y z => fin v3 h4 tk3 y z⟩
end
end DL

/-! max and min of a list of rows -/
namespace DL
open PySem PySem.Spec PyProof.Rows L2
def topR : List (List Int) → Option (List Int)
  | [] => none
  | r :: l => some (l.foldl (fun m r => if lexB m r then r else m) r)
def botR : List (List Int) → Option (List Int)
  | [] => none
  | r :: l => some (l.foldl (fun m r => if lexB r m then r else m) r)
/-- nothing is better than what the walk keeps -/
theorem best_of {bt : Nat → Nat → Bool} (irr : ∀ i, bt i i = false) (tr : ∀ i j k, bt i j = true → bt j k = true → bt i k = true) : ∀ k, argBest bt k ≤ k ∧ ∀ j, j ≤ k → bt j (argBest bt k) = false
  | 0 => ⟨Nat.le_refl _, fun j hj => by rw [Nat.le_zero.mp hj]; exact irr 0⟩
  | k + 1 => by
    obtain ⟨i1, i2⟩ := best_of irr tr k
    unfold argBest
    cases h : bt (k + 1) (argBest bt k) with
    | true =>
      rw [if_pos rfl]
      refine ⟨Nat.le_refl _, fun j hj => ?_⟩
      rcases Nat.lt_or_eq_of_le hj with z | z
      · cases q : bt j (k + 1) with
        | false => rfl
        | true =>
          have := tr _ _ _ q h
          rw [i2 j (by omega)] at this
          cases this
      · rw [z]; exact irr _
    | false =>
      rw [if_neg (by simp)]
      refine ⟨by omega, fun j hj => ?_⟩
      rcases Nat.lt_or_eq_of_le hj with z | z
      · exact i2 j (by omega)
      · rw [z]; exact h
theorem topR_ok {L : List (List Int)} {m : List Int} (h : topR L = some m) : m ∈ L ∧ ∀ r ∈ L, lexB m r = false := by
  have gen : ∀ (l : List (List Int)) (r : List Int), (l.foldl (fun m r => if lexB m r then r else m) r) ∈ r :: l ∧ ∀ x ∈ r :: l, lexB (l.foldl (fun m r => if lexB m r then r else m) r) x = false := by
    intro l
    induction l with
    | nil => intro r; exact ⟨List.mem_cons_self, fun x hx => by rw [List.mem_singleton.mp hx]; exact lexB_irr r⟩
    | cons y l ih =>
      intro r
      rw [List.foldl_cons]
      cases q : lexB r y with
      | true =>
        rw [if_pos rfl]
        obtain ⟨a, b⟩ := ih y
        refine ⟨List.mem_cons_of_mem _ a, fun x hx => ?_⟩
        rcases List.mem_cons.mp hx with rfl | hx
        · cases z : lexB (l.foldl (fun m r => if lexB m r then r else m) y) x with
          | false => rfl
          | true =>
            have := lexB_trans z q
            rw [b y List.mem_cons_self] at this
            cases this
        · exact b x hx
      | false =>
        rw [if_neg (by simp)]
        obtain ⟨a, b⟩ := ih r
        refine ⟨?_, fun x hx => ?_⟩
        · rcases List.mem_cons.mp a with e | e
          · rw [e]; exact List.mem_cons_self
          · exact List.mem_cons_of_mem _ (List.mem_cons_of_mem _ e)
        · rcases List.mem_cons.mp hx with rfl | hx
          · exact b x List.mem_cons_self
          rcases List.mem_cons.mp hx with rfl | hx
          · cases z : lexB (l.foldl (fun m r => if lexB m r then r else m) r) x with
            | false => rfl
            | true =>
              -- the kept one is not below r, r is not below x
              have br := b r List.mem_cons_self
              cases y : lexB r (l.foldl (fun m r => if lexB m r then r else m) r) with
              | true => have := lexB_trans y z; rw [q] at this; cases this
              | false => have e := lexB_tri br y; rw [e, q] at z; cases z
          · exact b x (List.mem_cons_of_mem _ hx)
  cases L with
  | nil => cases h
  | cons r l => cases h; exact gen l r
theorem botR_ok {L : List (List Int)} {m : List Int} (h : botR L = some m) : m ∈ L ∧ ∀ r ∈ L, lexB r m = false := by
  have gen : ∀ (l : List (List Int)) (r : List Int), (l.foldl (fun m r => if lexB r m then r else m) r) ∈ r :: l ∧ ∀ x ∈ r :: l, lexB x (l.foldl (fun m r => if lexB r m then r else m) r) = false := by
    intro l
    induction l with
    | nil => intro r; exact ⟨List.mem_cons_self, fun x hx => by rw [List.mem_singleton.mp hx]; exact lexB_irr r⟩
    | cons y l ih =>
      intro r
      rw [List.foldl_cons]
      cases q : lexB y r with
      | true =>
        rw [if_pos rfl]
        obtain ⟨a, b⟩ := ih y
        refine ⟨List.mem_cons_of_mem _ a, fun x hx => ?_⟩
        rcases List.mem_cons.mp hx with rfl | hx
        · cases z : lexB x (l.foldl (fun m r => if lexB r m then r else m) y) with
          | false => rfl
          | true =>
            have := lexB_trans q z
            rw [b y List.mem_cons_self] at this
            cases this
        · exact b x hx
      | false =>
        rw [if_neg (by simp)]
        obtain ⟨a, b⟩ := ih r
        refine ⟨?_, fun x hx => ?_⟩
        · rcases List.mem_cons.mp a with e | e
          · rw [e]; exact List.mem_cons_self
          · exact List.mem_cons_of_mem _ (List.mem_cons_of_mem _ e)
        · rcases List.mem_cons.mp hx with rfl | hx
          · exact b x List.mem_cons_self
          rcases List.mem_cons.mp hx with rfl | hx
          · cases z : lexB x (l.foldl (fun m r => if lexB r m then r else m) r) with
            | false => rfl
            | true =>
              have br := b r List.mem_cons_self
              cases y : lexB (l.foldl (fun m r => if lexB r m then r else m) r) r with
              | true => have := lexB_trans z y; rw [q] at this; cases this
              | false => have e := lexB_tri br y; rw [← e, q] at z; cases z
          · exact b x (List.mem_cons_of_mem _ hx)
  cases L with
  | nil => cases h
  | cons r l => cases h; exact gen l r
section
variable {X : Cx} {W : WX}
def rmaxR (K : PySem.W.Frag) : List V → Hp → VK → Prop := fun vs H Q => ∃ (a : Addr) (ks : List (Addr × List Int)), vs = [V.ref a] ∧ SqL K H a (ks.map fun p => V.ref p.1) ∧ (∀ p ∈ ks, H p.1 = some (.tup (p.2.map V.int))) ∧ ks ≠ [] ∧ ∀ p ∈ ks, (∀ q ∈ ks, lexB p.2 q.2 = false) → Q (.ref p.1) H
theorem cr_maxR (hc : X.calm = true) (hu : X.A.units + 64 < cLine) : CallR X (.builtin "max") (rmaxR X.K) := by
  intro pins s σ H vs us Q I r h
  obtain ⟨a, ks, rfl, hs, hat, hne, q⟩ := h
  obtain ⟨its, rv, hl, _⟩ := I.list hs
  rw [Vals.ref1 r]
  have len : its.length = ks.length := by rw [← rv.length, List.length_map]
  have kp : 0 < ks.length := List.length_pos_iff.mpr hne
  let row : Nat → List Int := fun i => (ks[i]?.map (·.2)).getD []
  let bt : Nat → Nat → Bool := fun i j => lexB (row j) (row i)
  have at_ : ∀ {i : Nat} {v : Value}, its.toArray[i]? = some v → ∃ p, ks[i]? = some p ∧ v = .ref p.1 := fun {i v} hv => by
    rw [List.getElem?_toArray] at hv
    cases hk : ks[i]? with
    | none => rw [List.getElem?_eq_none (by have := List.getElem?_eq_none_iff.mp hk; omega)] at hv; cases hv
    | some p =>
      obtain ⟨u, e1, e2⟩ := Vals.get rv (i := i) (x := .ref p.1) (by rw [List.getElem?_map, hk]; rfl)
      rw [hv] at e1
      cases e1
      exact ⟨p, rfl, e2⟩
  have hl2 := hl
  obtain ⟨o, n, e1, e2, _, e4⟩ := hl
  have isl : s.heap.IsList a its.toArray := ⟨o, e1, e2, n, e4⟩
  refine maxat_call (iter_any isl fun s2 es st ne => ?_)
  subst es
  refine ⟨_, _, _, _, _, _, bt, s.heap, rfl, Walks.list (A := X.A.in1) (I.ok.hd hc) _ a ne its.toArray, st, ?_, by rw [List.size_toArray]; omega, ?_, ?_, fun b ob z => Heap.get?_push_of_some _ z, fun v h2 tk hv k2 => ?_⟩
  · intro b hb
    rcases List.mem_cons.mp hb with rfl | hb
    · exact Nat.lt_of_lt_of_eq (Nat.lt_succ_self _) (Array.size_push _).symm
    · rw [List.mem_singleton.mp hb]; exact Nat.lt_of_lt_of_eq (Nat.lt_succ_of_lt (Heap.lt_size e1)) (Array.size_push _).symm
  · intro i j u v s3 Q3 E3 hi hj k3 hq
    obtain ⟨p, hp, rfl⟩ := at_ hi
    obtain ⟨p', hp', rfl⟩ := at_ hj
    have I3 : Inv X pins σ H { s with heap := s3.heap, toks := s.toks } := I.kept (t' := s.toks) fun b ob z => k3 b ob z
    obtain ⟨as, r1⟩ := Dp.reads I3 (ans p.2).py (.ref p.1) (.ref p.1) (Rep.dp (ans p.2) 50 (.ref p.1) (ans_pl p.2 49) ⟨p.1, _, rfl, hat p (List.mem_of_getElem? hp), rep_ints p.2⟩) rfl
    obtain ⟨bs, r2⟩ := Dp.reads I3 (ans p'.2).py (.ref p'.1) (.ref p'.1) (Rep.dp (ans p'.2) 50 (.ref p'.1) (ans_pl p'.2 49) ⟨p'.1, _, rfl, hat p' (List.mem_of_getElem? hp'), rep_ints p'.2⟩) rfl
    refine PySem.W.gt_data r1 r2 (ans_alike _ _) (by intro z; cases z) (by have := ans_dp p.2; have : X.A.in1.units = X.A.units + 1 := rfl; omega) ?_
    have : bt i j = PySem.W.dataLt (ans p'.2).py (ans p.2).py := by
      have x1 : row i = p.2 := by show (ks[i]?.map (·.2)).getD [] = _; rw [hp]; rfl
      have x2 : row j = p'.2 := by show (ks[j]?.map (·.2)).getD [] = _; rw [hp']; rfl
      show lexB (row j) (row i) = _
      rw [x1, x2, ← lt_ans]
      rfl
    rw [← this]; exact hq
  · intro b hb
    rw [List.mem_singleton.mp hb]
    cases z : s.heap.get? s.heap.objs.size with
    | none => rfl
    | some ob => exact absurd (Heap.lt_size z) (Nat.lt_irrefl _)
  · obtain ⟨p, hp, rfl⟩ := at_ hv
    refine ⟨.ref p.1, H, I.kept (t' := tk) fun b ob z => k2 b ob z, rfl, q p (List.mem_of_getElem? hp) fun q' hq' => ?_⟩
    obtain ⟨j, hj⟩ := List.getElem?_of_mem hq'
    have jl : j < ks.length := (List.getElem?_eq_some_iff.mp hj).1
    have := (best_of (bt := bt) (fun i => lexB_irr _) (fun i j k z1 z2 => lexB_trans z2 z1) (its.toArray.size - 1)).2 j (by rw [List.size_toArray]; omega)
    have x1 : row (argBest bt (its.toArray.size - 1)) = p.2 := by show (ks[argBest bt (its.toArray.size - 1)]?.map (fun p : Addr × List Int => p.2)).getD [] = p.2; rw [hp]; rfl
    have x2 : row j = q'.2 := by show (ks[j]?.map (·.2)).getD [] = _; rw [hj]; rfl
    rw [← x1, ← x2]
    exact this
end
section
variable {X : Cx} {W : WX}
def rminR (K : PySem.W.Frag) : List V → Hp → VK → Prop := fun vs H Q => ∃ (a : Addr) (ks : List (Addr × List Int)), vs = [V.ref a] ∧ SqL K H a (ks.map fun p => V.ref p.1) ∧ (∀ p ∈ ks, H p.1 = some (.tup (p.2.map V.int))) ∧ ks ≠ [] ∧ ∀ p ∈ ks, (∀ q ∈ ks, lexB q.2 p.2 = false) → Q (.ref p.1) H
theorem cr_minR (hc : X.calm = true) (hu : X.A.units + 64 < cLine) : CallR X (.builtin "min") (rminR X.K) := by
  intro pins s σ H vs us Q I r h
  obtain ⟨a, ks, rfl, hs, hat, hne, q⟩ := h
  obtain ⟨its, rv, hl, _⟩ := I.list hs
  rw [Vals.ref1 r]
  have len : its.length = ks.length := by rw [← rv.length, List.length_map]
  have kp : 0 < ks.length := List.length_pos_iff.mpr hne
  let row : Nat → List Int := fun i => (ks[i]?.map (·.2)).getD []
  let bt : Nat → Nat → Bool := fun i j => lexB (row i) (row j)
  have at_ : ∀ {i : Nat} {v : Value}, its.toArray[i]? = some v → ∃ p, ks[i]? = some p ∧ v = .ref p.1 := fun {i v} hv => by
    rw [List.getElem?_toArray] at hv
    cases hk : ks[i]? with
    | none => rw [List.getElem?_eq_none (by have := List.getElem?_eq_none_iff.mp hk; omega)] at hv; cases hv
    | some p =>
      obtain ⟨u, e1, e2⟩ := Vals.get rv (i := i) (x := .ref p.1) (by rw [List.getElem?_map, hk]; rfl)
      rw [hv] at e1
      cases e1
      exact ⟨p, rfl, e2⟩
  have hl2 := hl
  obtain ⟨o, n, e1, e2, _, e4⟩ := hl
  have isl : s.heap.IsList a its.toArray := ⟨o, e1, e2, n, e4⟩
  refine minat_call (iter_any isl fun s2 es st ne => ?_)
  subst es
  refine ⟨_, _, _, _, _, _, bt, s.heap, rfl, Walks.list (A := X.A.in1) (I.ok.hd hc) _ a ne its.toArray, st, ?_, by rw [List.size_toArray]; omega, ?_, ?_, fun b ob z => Heap.get?_push_of_some _ z, fun v h2 tk hv k2 => ?_⟩
  · intro b hb
    rcases List.mem_cons.mp hb with rfl | hb
    · exact Nat.lt_of_lt_of_eq (Nat.lt_succ_self _) (Array.size_push _).symm
    · rw [List.mem_singleton.mp hb]; exact Nat.lt_of_lt_of_eq (Nat.lt_succ_of_lt (Heap.lt_size e1)) (Array.size_push _).symm
  · intro i j u v s3 Q3 E3 hi hj k3 hq
    obtain ⟨p, hp, rfl⟩ := at_ hi
    obtain ⟨p', hp', rfl⟩ := at_ hj
    have I3 : Inv X pins σ H { s with heap := s3.heap, toks := s.toks } := I.kept (t' := s.toks) fun b ob z => k3 b ob z
    obtain ⟨as, r1⟩ := Dp.reads I3 (ans p.2).py (.ref p.1) (.ref p.1) (Rep.dp (ans p.2) 50 (.ref p.1) (ans_pl p.2 49) ⟨p.1, _, rfl, hat p (List.mem_of_getElem? hp), rep_ints p.2⟩) rfl
    obtain ⟨bs, r2⟩ := Dp.reads I3 (ans p'.2).py (.ref p'.1) (.ref p'.1) (Rep.dp (ans p'.2) 50 (.ref p'.1) (ans_pl p'.2 49) ⟨p'.1, _, rfl, hat p' (List.mem_of_getElem? hp'), rep_ints p'.2⟩) rfl
    refine PySem.W.lt_data r1 r2 (ans_alike _ _) (by intro z; cases z) (by have := ans_dp p.2; have : X.A.in1.units = X.A.units + 1 := rfl; omega) ?_
    have : bt i j = PySem.W.dataLt (ans p.2).py (ans p'.2).py := by
      have x1 : row i = p.2 := by show (ks[i]?.map (·.2)).getD [] = _; rw [hp]; rfl
      have x2 : row j = p'.2 := by show (ks[j]?.map (·.2)).getD [] = _; rw [hp']; rfl
      show lexB (row i) (row j) = _
      rw [x1, x2, ← lt_ans]
      rfl
    rw [← this]; exact hq
  · intro b hb
    rw [List.mem_singleton.mp hb]
    cases z : s.heap.get? s.heap.objs.size with
    | none => rfl
    | some ob => exact absurd (Heap.lt_size z) (Nat.lt_irrefl _)
  · obtain ⟨p, hp, rfl⟩ := at_ hv
    refine ⟨.ref p.1, H, I.kept (t' := tk) fun b ob z => k2 b ob z, rfl, q p (List.mem_of_getElem? hp) fun q' hq' => ?_⟩
    obtain ⟨j, hj⟩ := List.getElem?_of_mem hq'
    have jl : j < ks.length := (List.getElem?_eq_some_iff.mp hj).1
    have := (best_of (bt := bt) (fun i => lexB_irr _) (fun i j k z1 z2 => lexB_trans z1 z2) (its.toArray.size - 1)).2 j (by rw [List.size_toArray]; omega)
    have x1 : row (argBest bt (its.toArray.size - 1)) = p.2 := by show (ks[argBest bt (its.toArray.size - 1)]?.map (fun p : Addr × List Int => p.2)).getD [] = p.2; rw [hp]; rfl
    have x2 : row j = q'.2 := by show (ks[j]?.map (·.2)).getD [] = _; rw [hj]; rfl
    rw [← x1, ← x2]
    exact this
end
end DL

/-! Typed readings of the plain-data bodies: what a body does, told over Lean's own types. -/
namespace DL
open PySem PySem.Spec PyProof.Rows L2
open PySem.Builtin.Int (intBits)

/-- two lists, item by item -/
def A2 {α β : Type} (E : α → β → Prop) : List α → List β → Prop
  | [], ds => ds = []
  | a :: l, ds => ∃ d r, ds = d :: r ∧ E a d ∧ A2 E l r
section
variable {α β : Type} {E : α → β → Prop}
theorem A2.nil : A2 E [] [] := rfl
theorem A2.cons {a : α} {d : β} {l : List α} {r : List β} (h : E a d) (t : A2 E l r) : A2 E (a :: l) (d :: r) := ⟨d, r, rfl, h, t⟩
theorem A2.length : ∀ {l : List α} {r : List β}, A2 E l r → r.length = l.length
  | [], _, h => by rw [show _ = [] from h]; rfl
  | _ :: _, _, ⟨d, r, e, _, t⟩ => by rw [e, List.length_cons, List.length_cons, A2.length t]
theorem A2.append : ∀ {l l' : List α} {r r' : List β}, A2 E l r → A2 E l' r' → A2 E (l ++ l') (r ++ r')
  | [], _, _, _, h, t => by rw [show _ = [] from h]; exact t
  | _ :: _, _, _, _, ⟨d, r, e, x, y⟩, t => by rw [e]; exact ⟨d, _, rfl, x, A2.append y t⟩
theorem A2.reverse : ∀ {l : List α} {r : List β}, A2 E l r → A2 E l.reverse r.reverse
  | [], _, h => by rw [show _ = [] from h]; rfl
  | _ :: _, _, ⟨d, r, e, x, y⟩ => by rw [e, List.reverse_cons, List.reverse_cons]; exact (A2.reverse y).append ⟨d, [], rfl, x, rfl⟩
theorem A2.drop : ∀ {l : List α} {r : List β} (n : Nat), A2 E l r → A2 E (l.drop n) (r.drop n)
  | _, _, 0, h => h
  | [], _, n + 1, h => by rw [show _ = [] from h]; rfl
  | _ :: _, _, n + 1, ⟨d, r, e, x, y⟩ => by rw [e]; exact A2.drop n y
theorem A2.take : ∀ {l : List α} {r : List β} (n : Nat), A2 E l r → A2 E (l.take n) (r.take n)
  | _, _, 0, h => rfl
  | [], _, n + 1, h => by rw [show _ = [] from h]; rfl
  | _ :: _, _, n + 1, ⟨d, r, e, x, y⟩ => by rw [e]; exact ⟨d, _, rfl, x, A2.take n y⟩
theorem A2.set {a : α} {d : β} (h : E a d) : ∀ {l : List α} {r : List β} (n : Nat), A2 E l r → A2 E (l.set n a) (r.set n d)
  | [], _, n, e => by rw [show _ = [] from e]; rfl
  | _ :: _, _, 0, ⟨w, r, e, x, y⟩ => by rw [e]; exact ⟨d, r, rfl, h, y⟩
  | _ :: _, _, n + 1, ⟨w, r, e, x, y⟩ => by rw [e]; exact ⟨w, _, rfl, x, A2.set h n y⟩
theorem A2.get : ∀ {l : List α} {r : List β} {i : Nat} {a : α}, A2 E l r → l[i]? = some a → ∃ d, r[i]? = some d ∧ E a d
  | _ :: _, _, 0, _, ⟨v, r, e, x, y⟩, h => by cases h; exact ⟨v, by rw [e]; rfl, x⟩
  | _ :: _, _, i + 1, d, ⟨v, r, e, x, y⟩, h => by
    obtain ⟨w, h1, h2⟩ := A2.get (i := i) (a := d) y (by simpa using h)
    exact ⟨w, by rw [e]; simpa using h1, h2⟩
theorem A2.imp {E' : α → β → Prop} (f : ∀ a d, E a d → E' a d) : ∀ {l : List α} {r : List β}, A2 E l r → A2 E' l r
  | [], _, h => h
  | _ :: _, _, ⟨d, r, e, x, y⟩ => ⟨d, r, e, f _ _ x, A2.imp f y⟩
theorem A2.fn {f : α → β} : ∀ {l : List α} {r : List β}, A2 (fun a d => d = f a) l r ↔ r = l.map f
  | [], r => Iff.rfl
  | a :: l, r => ⟨fun ⟨d, r', e, x, y⟩ => by rw [e, x, A2.fn.mp y]; rfl, fun h => ⟨f a, l.map f, h, rfl, A2.fn.mpr rfl⟩⟩
end

/-- r tells what x is, where it tells at all -/
def Rf {α β : Type} (x : Res β) (r : Res α) (E : α → β → Prop) : Prop := match r with
  | .ok a => ∃ d, x = .ok d ∧ E a d
  | .exc c fs => x = .exc c fs
  | .bad => True
section
variable {α β γ δ : Type}
theorem Rf.bind {x : Res β} {r : Res α} {E : α → β → Prop} {f : β → Res δ} {g : α → Res γ} {E' : γ → δ → Prop} (h : Rf x r E) (k : ∀ a d, E a d → Rf (f d) (g a) E') : Rf (x.bind f) (r.bind g) E' := by
  cases r with
  | ok a => obtain ⟨d, e, h⟩ := h; rw [e]; exact k a d h
  | exc c fs => rw [show x = _ from h]; exact rfl
  | bad => trivial
theorem Rf.ok {d : β} {a : α} {E : α → β → Prop} (h : E a d) : Rf (.ok d) (.ok a) E := ⟨d, rfl, h⟩
theorem Rf.bad {x : Res β} {E : α → β → Prop} : Rf x .bad E := trivial
theorem Rf.imp {x : Res β} {r : Res α} {E E' : α → β → Prop} (h : Rf x r E) (f : ∀ a d, E a d → E' a d) : Rf x r E' := by
  cases r with
  | ok a => obtain ⟨d, e, h⟩ := h; exact ⟨d, e, f _ _ h⟩
  | exc c fs => exact h
  | bad => trivial
theorem Rf.map {x : Res β} {r : Res α} {E : α → β → Prop} {E' : γ → β → Prop} {g : α → γ} (h : Rf x r E) (f : ∀ a d, E a d → E' (g a) d) : Rf x (r.bind fun a => .ok (g a)) E' := by
  cases r with
  | ok a => obtain ⟨d, e, h⟩ := h; exact ⟨d, e, f _ _ h⟩
  | exc c fs => exact h
  | bad => trivial
theorem Rf.get {x : Res β} {r : Res α} {E : α → β → Prop} {a : α} (h : Rf x r E) (e : r = .ok a) : ∃ d, x = .ok d ∧ E a d := by subst e; exact h
/-- where the reckoning itself is told -/
theorem Rf.of {x : Res β} {r : Res α} {E : α → β → Prop} {d : β} {a : α} (e : x = .ok d) (q : r = .ok a) (h : E a d) : Rf x r E := by subst q; exact ⟨d, e, h⟩
end

/-- what is known of a name -/
abbrev Kn := D → Bool → Prop
abbrev KEnv := List (Option Kn)
def sh {α : Type} (E : α → D → Prop) (a : α) : Kn := fun d o => E a d ∧ o = false
def ow {α : Type} (E : α → D → Prop) (a : α) : Kn := fun d o => E a d ∧ o = true
/-- the names' values are as known -/
def Le : KEnv → DL.Env → Prop := A2 fun r x => ∀ P, r = some P → ∃ d o, x = some (d, o) ∧ P d o
theorem Le.get {ρ : KEnv} {e : DL.Env} (h : Le ρ e) {i : Nat} {P : Kn} (k : ρ[i]? = some (some P)) : ∃ d o, e[i]? = some (some (d, o)) ∧ P d o := by
  obtain ⟨x, h1, h2⟩ := A2.get h k
  obtain ⟨d, o, h3, h4⟩ := h2 P rfl
  exact ⟨d, o, by rw [h1, h3], h4⟩
theorem Le.set {ρ : KEnv} {e : DL.Env} (h : Le ρ e) (i : Nat) {P : Kn} {d : D} {o : Bool} (k : P d o) : Le (ρ.set i (some P)) (e.set i (some (d, o))) :=
  A2.set (fun Q hq => by cases hq; exact ⟨d, o, rfl, k⟩) i h
theorem Le.forget {ρ : KEnv} {e : DL.Env} (h : Le ρ e) (i : Nat) : Le (ρ.set i none) (e.set i none) := A2.set (fun Q hq => by cases hq) i h
/-- less is known -/
def Sb : KEnv → KEnv → Prop := A2 fun r x => r = none ∨ r = x
theorem Le.less {ρ' ρ : KEnv} {e : DL.Env} (s : Sb ρ' ρ) (h : Le ρ e) : Le ρ' e := by
  induction ρ generalizing ρ' e with
  | nil =>
    cases ρ' with
    | nil => exact h
    | cons r ρ' => obtain ⟨_, _, e, _⟩ := s; cases e
  | cons x ρ ih =>
    obtain ⟨y, e', rfl, h1, h2⟩ := h
    cases ρ' with
    | nil => cases (show _ = [] from s)
    | cons r ρ' =>
      obtain ⟨_, _, e, s1, s2⟩ := s
      cases e
      refine ⟨y, e', rfl, fun P hP => ?_, ih s2 h2⟩
      rcases s1 with z | z
      · rw [z] at hP; cases hP
      · exact h1 P (z ▸ hP)
theorem Sb.nil : Sb [] [] := rfl
theorem Sb.same {r : Option Kn} {a b : KEnv} (s : Sb a b) : Sb (r :: a) (r :: b) := ⟨_, _, rfl, .inr rfl, s⟩
theorem Sb.drop {r : Option Kn} {a b : KEnv} (s : Sb a b) : Sb (none :: a) (r :: b) := ⟨_, _, rfl, .inl rfl, s⟩
theorem Sb.refl : ∀ a : KEnv, Sb a a
  | [] => rfl
  | _ :: a => .same (Sb.refl a)
/-- a list is handed on: what was owned is owned no more -/
def frK (P : Kn) : Kn := fun d o => o = false ∧ ∃ o', P d o'
def fzK : List Nat → KEnv → KEnv
  | [], ρ => ρ
  | i :: r, ρ => fzK r (match ρ[i]? with
    | some (some P) => ρ.set i (some (frK P))
    | _ => ρ)
theorem Le.unown {ρ : KEnv} {e : DL.Env} (h : Le ρ e) (i : Nat) : Le (match ρ[i]? with | some (some P) => ρ.set i (some (frK P)) | _ => ρ) (unown i e) := by
  cases hp : ρ[i]? with
  | none =>
    have : e[i]? = none := by
      rw [List.getElem?_eq_none_iff] at hp ⊢
      rw [A2.length h]; exact hp
    unfold DL.unown
    rw [this]
    exact h
  | some r =>
    cases r with
    | none =>
      have self : ρ.set i none = ρ := by
        apply List.ext_getElem?
        intro j
        rw [List.getElem?_set]
        by_cases hj : i = j
        · subst hj
          obtain ⟨w, hw⟩ := List.getElem?_eq_some_iff.mp hp
          simp [w, hw]
        · simp [hj]
      unfold DL.unown
      cases he : e[i]? with
      | none => exact h
      | some s =>
        cases s with
        | none => exact h
        | some z =>
          obtain ⟨d, o⟩ := z
          cases o with
          | false => exact h
          | true =>
            show Le ρ (e.set i (some (d, false)))
            rw [← self]
            exact A2.set (fun P hP => by cases hP) i h
    | some P =>
      obtain ⟨d, o, he, hP⟩ := h.get hp
      unfold DL.unown
      rw [he]
      cases o with
      | true => exact Le.set h i ⟨rfl, _, hP⟩
      | false =>
        dsimp only
        have : e.set i (some (d, false)) = e := by
          apply List.ext_getElem?
          intro j
          rw [List.getElem?_set]
          by_cases hj : i = j
          · subst hj
            rw [he]
            have := (List.getElem?_eq_some_iff.mp he).1
            simp [this]
          · simp [hj]
        rw [← this]
        exact Le.set h i ⟨rfl, _, hP⟩
theorem Le.fz : ∀ (al : List Nat) {ρ : KEnv} {e : DL.Env}, Le ρ e → Le (fzK al ρ) (fz al e)
  | [], _, _, h => h
  | i :: r, _, _, h => Le.fz r (h.unown i)
def wipeK (ρ : KEnv) : List Nat → KEnv
  | [] => ρ
  | v :: vs => (wipeK ρ vs).set v none
theorem Le.wipe {ρ : KEnv} {e : DL.Env} (h : Le ρ e) : ∀ vs : List Nat, Le (wipeK ρ vs) (wipeE e vs)
  | [] => h
  | v :: vs => (Le.wipe h vs).forget v

/-! ### expressions -/
def EvR {α β : Type} (ρ : KEnv) (f : DL.Env → Res β) (r : Res α) (E : α → β → Prop) : Prop := ∀ e, Le ρ e → Rf (f e) r E
abbrev RE (α : Type) := α → D → Prop
def eI : RE Int := fun i d => d = .int i
def eB : RE Bool := fun b d => d = .bl b
def eS : RE Str := fun x d => d = .str x
def eN : RE Unit := fun _ d => d = .non
def eD : RE D := fun a d => d = a
def eL {α : Type} (E : RE α) : RE (List α) := fun l d => ∃ ds, d = .lst ds ∧ A2 E l ds
def eT {α : Type} (E : RE α) : RE (List α) := fun l d => ∃ ds, d = .tup ds ∧ A2 E l ds
/-- rows of numbers -/
def eR : RE (List Int) := fun k d => d = ans k
/-- tuples of known form: the items' list -/
def qN : Unit → List D → Prop := fun _ ds => ds = []
def q1 {α : Type} (E : RE α) : α → List D → Prop := fun a ds => ∃ d, ds = [d] ∧ E a d
def qC {α β : Type} (E : RE α) (Q : β → List D → Prop) : α × β → List D → Prop := fun p ds => ∃ d r, ds = d :: r ∧ E p.1 d ∧ Q p.2 r
/-- shares -/
def eH : RE Rat := fun x d => d = shr x ∨ d = .con [.int x.num, .int x.den]
/-- truths and lists, as they are -/
def Tr : Bool → Bool → Prop := fun a b => b = a
section
variable {α β γ δ : Type} {ρ : KEnv}
theorem v_s {i : Nat} {E : RE α} {a : α} (h : ρ[i]? = some (some (sh E a))) : EvR ρ (eVarS i) (.ok a) E := fun e l => by
  obtain ⟨d, o, h1, h2, h3⟩ := l.get h
  subst h3
  exact ⟨d, by unfold eVarS; rw [h1], h2⟩
theorem v_o {i : Nat} {E : RE α} {a : α} (h : ρ[i]? = some (some (ow E a))) : EvR ρ (eVar i) (.ok a) E := fun e l => by
  obtain ⟨d, o, h1, h2, h3⟩ := l.get h
  exact ⟨d, by unfold eVar; rw [h1], h2⟩
theorem v_c {d : D} {E : RE α} {a : α} (h : E a d) : EvR ρ (eC d) (.ok a) E := fun e l => ⟨d, rfl, h⟩
theorem v_op {fa fb : DL.Env → Res D} {g : D → D → Res D} {Ea : RE α} {Eb : RE β} {Ec : RE γ} {ra : Res α} {rb : Res β} {gt : α → β → Res γ} (hg : ∀ a b x y, Ea a x → Eb b y → Rf (g x y) (gt a b) Ec) (ha : EvR ρ fa ra Ea) (hb : EvR ρ fb rb Eb) :
    EvR ρ (eOp g fa fb) (ra.bind fun a => rb.bind fun b => gt a b) Ec := fun e l => (ha e l).bind fun a x h1 => (hb e l).bind fun b y h2 => hg a b x y h1 h2
theorem v_opp {fa fb : DL.Env → Res D} {g : D → D → Res D} {Ea : RE α} {Eb : RE β} {Ec : RE γ} {a : α} {b : β} {r : Res γ} (hg : ∀ x y, Ea a x → Eb b y → Rf (g x y) r Ec) (ha : EvR ρ fa (.ok a) Ea) (hb : EvR ρ fb (.ok b) Eb) :
    EvR ρ (eOp g fa fb) r Ec := fun e l => by
  obtain ⟨x, e1, h1⟩ := ha e l
  obtain ⟨y, e2, h2⟩ := hb e l
  unfold eOp
  rw [e1, e2]
  exact hg x y h1 h2
theorem v_1 {fa : DL.Env → Res D} {g : D → Res D} {Ea : RE α} {Ec : RE γ} {ra : Res α} {gt : α → Res γ} (hg : ∀ a x, Ea a x → Rf (g x) (gt a) Ec) (ha : EvR ρ fa ra Ea) : EvR ρ (e1 g fa) (ra.bind gt) Ec := fun e l => (ha e l).bind hg
theorem v_1p {fa : DL.Env → Res D} {g : D → Res D} {Ea : RE α} {Ec : RE γ} {a : α} {r : Res γ} (hg : ∀ x, Ea a x → Rf (g x) r Ec) (ha : EvR ρ fa (.ok a) Ea) : EvR ρ (e1 g fa) r Ec := fun e l => by
  obtain ⟨x, e1, h1⟩ := ha e l
  unfold DL.e1
  rw [e1]
  exact hg x h1
theorem v_imp {fa : DL.Env → Res β} {E E' : α → β → Prop} {r : Res α} (h : EvR ρ fa r E) (f : ∀ a d, E a d → E' a d) : EvR ρ fa r E' := fun e l => (h e l).imp f
theorem v_cast {fa : DL.Env → Res β} {E : α → β → Prop} {E' : γ → β → Prop} {a : α} {c : γ} (h : EvR ρ fa (.ok a) E) (f : ∀ d, E a d → E' c d) : EvR ρ fa (.ok c) E' := fun e l => by
  obtain ⟨x, e1, h1⟩ := h e l
  exact ⟨x, e1, f x h1⟩
theorem v_map {fa : DL.Env → Res β} {E : α → β → Prop} {E' : γ → β → Prop} {r : Res α} {g : α → γ} (h : EvR ρ fa r E) (f : ∀ a d, E a d → E' (g a) d) : EvR ρ fa (r.bind fun a => .ok (g a)) E' := fun e l => (h e l).map f
/-- typed anew, where it can be -/
theorem v_as {fa : DL.Env → Res β} {E : α → β → Prop} {E' : γ → β → Prop} {r : Res α} {g : α → Res γ} (h : EvR ρ fa r E) (f : ∀ a d c, E a d → g a = .ok c → E' c d) (n : ∀ a c fs, g a ≠ .exc c fs) : EvR ρ fa (r.bind g) E' := fun e l => by
  have := h e l
  cases r with
  | ok a =>
    obtain ⟨d, e1, h1⟩ := this
    show Rf (fa e) (g a) E'
    cases q : g a with
    | ok c => exact ⟨d, e1, f a d c h1 q⟩
    | exc c fs => exact absurd q (n _ _ _)
    | bad => trivial
  | exc c fs => exact this
  | bad => trivial
theorem vq_1 {f : DL.Env → Res D} {r : Res α} {E : RE α} (h : EvR ρ f r E) : EvR ρ (aCons f aNil) r (q1 E) := fun e l => by
  have := h e l
  unfold aCons aNil
  cases r with
  | ok a => obtain ⟨d, e1, h1⟩ := this; rw [e1]; exact ⟨[d], rfl, d, rfl, h1⟩
  | exc c fs => rw [show f e = _ from this]; rfl
  | bad => trivial
theorem vq_c {f : DL.Env → Res D} {fs : DL.Env → Res (List D)} {r : Res α} {rs : Res β} {E : RE α} {Q : β → List D → Prop} (h : EvR ρ f r E) (t : EvR ρ fs rs Q) : EvR ρ (aCons f fs) (r.bind fun a => rs.bind fun b => .ok (a, b)) (qC E Q) := fun e l =>
  (h e l).bind fun a d h1 => (t e l).bind fun b ds h2 => .ok ⟨d, ds, rfl, h1, h2⟩
theorem vq_cp {f : DL.Env → Res D} {fs : DL.Env → Res (List D)} {a : α} {b : β} {E : RE α} {Q : β → List D → Prop} (h : EvR ρ f (.ok a) E) (t : EvR ρ fs (.ok b) Q) : EvR ρ (aCons f fs) (.ok (a, b)) (qC E Q) := vq_c h t
/-- as many items as one likes, all of a kind -/
theorem vl_nil {E : RE α} : EvR ρ aNil (.ok []) (A2 E) := fun e l => ⟨[], rfl, rfl⟩
theorem vl_c {f : DL.Env → Res D} {fs : DL.Env → Res (List D)} {r : Res α} {rs : Res (List α)} {E : RE α} (h : EvR ρ f r E) (t : EvR ρ fs rs (A2 E)) : EvR ρ (aCons f fs) (r.bind fun a => rs.bind fun b => .ok (a :: b)) (A2 E) := fun e l =>
  (h e l).bind fun a d h1 => (t e l).bind fun b ds h2 => .ok ⟨d, ds, rfl, h1, h2⟩
theorem vl_cp {f : DL.Env → Res D} {fs : DL.Env → Res (List D)} {a : α} {b : List α} {E : RE α} (h : EvR ρ f (.ok a) E) (t : EvR ρ fs (.ok b) (A2 E)) : EvR ρ (aCons f fs) (.ok (a :: b)) (A2 E) := vl_c h t
theorem v_lst {fs : DL.Env → Res (List D)} {r : Res (List α)} {E : RE α} (h : EvR ρ fs r (A2 E)) : EvR ρ (eLst fs) r (eL E) := fun e l => by
  have := h e l
  unfold eLst
  cases r with
  | ok a => obtain ⟨d, e1, h1⟩ := this; rw [e1]; exact ⟨_, rfl, d, rfl, h1⟩
  | exc c fs' => rw [show fs e = _ from this]; rfl
  | bad => trivial
/-- a call: what the def does on data of these readings -/
def CallR (F : List D → Res D) (Q : α → List D → Prop) (t : α → Res β) (E : RE β) : Prop := ∀ a ds, Q a ds → Rf (F ds) (t a) E
theorem v_call {F : List D → Res D} {fs : DL.Env → Res (List D)} {Q : α → List D → Prop} {t : α → Res β} {E : RE β} {r : Res α} (c : CallR F Q t E) (h : EvR ρ fs r Q) : EvR ρ (eCall F fs) (r.bind t) E := fun e l => (h e l).bind c
theorem v_callp {F : List D → Res D} {fs : DL.Env → Res (List D)} {Q : α → List D → Prop} {t : α → Res β} {E : RE β} {a : α} (c : CallR F Q t E) (h : EvR ρ fs (.ok a) Q) : EvR ρ (eCall F fs) (t a) E := fun e l => by
  obtain ⟨d, e1, h1⟩ := h e l
  unfold eCall
  rw [e1]
  exact c a d h1
/-! tests -/
theorem b_test {fa fb : DL.Env → Res D} {g : D → D → Res D} {r : Res Bool} (h : EvR ρ (eOp g fa fb) r eB) : EvR ρ (bTest g fa fb) r Tr := fun e l => by
  have := h e l
  unfold eOp at this
  unfold bTest
  have q : ∀ (x y : D), ((g x y).bind D.asB) = (g x y).bind D.asB := fun _ _ => rfl
  have ass : (fa e).bind (fun x => (fb e).bind fun y => (g x y).bind D.asB) = ((fa e).bind fun x => (fb e).bind fun y => g x y).bind D.asB := by
    cases fa e with
    | ok x => cases fb e <;> rfl
    | exc c fs => rfl
    | bad => rfl
  rw [ass]
  have z := this.bind (f := D.asB) (g := fun b => Res.ok b) (E' := Tr) fun b d hd => by rw [show d = _ from hd]; exact ⟨b, rfl, rfl⟩
  cases r <;> exact z
theorem b_truB {f : DL.Env → Res D} {r : Res Bool} (h : EvR ρ f r eB) : EvR ρ (bTruth f) r Tr := fun e l => by
  have := (h e l).bind (f := D.truth) (g := fun b => Res.ok b) (E' := Tr) fun b d hd => by rw [show d = _ from hd]; exact ⟨b, rfl, rfl⟩
  cases r <;> exact this
theorem b_or {fa fb : DL.Env → Res Bool} {ra rb : Res Bool} (ha : EvR ρ fa ra Tr) (hb : EvR ρ fb rb Tr) : EvR ρ (bOr fa fb) (ra.bind fun b => if b = true then .ok true else rb) Tr := fun e l =>
  (ha e l).bind fun a b h => by
    rw [show b = a from h]
    cases a
    · exact hb e l
    · exact ⟨true, rfl, rfl⟩
theorem b_not {fa : DL.Env → Res Bool} {ra : Res Bool} (ha : EvR ρ fa ra Tr) : EvR ρ (bNot fa) (ra.bind fun b => .ok (!b)) Tr := fun e l =>
  (ha e l).bind fun a b h => by rw [show b = a from h]; exact ⟨_, rfl, rfl⟩
theorem b_orP {fa fb : DL.Env → Res Bool} {P Q : Prop} [Decidable P] [Decidable Q] (ha : EvR ρ fa (.ok (decide P)) Tr) (hb : EvR ρ fb (.ok (decide Q)) Tr) : EvR ρ (bOr fa fb) (.ok (decide (P ∨ Q))) Tr := fun e l => by
  have := b_or ha hb e l
  rw [show (Res.ok (decide P)).bind (fun b => if b = true then .ok true else Res.ok (decide Q)) = .ok (decide (P ∨ Q)) by by_cases h : P <;> simp [h]] at this
  exact this
theorem b_notP {fa : DL.Env → Res Bool} {P : Prop} [Decidable P] (ha : EvR ρ fa (.ok (decide P)) Tr) : EvR ρ (bNot fa) (.ok (decide (¬ P))) Tr := fun e l => by
  have := b_not ha e l
  rw [show (Res.ok (decide P)).bind (fun b => .ok (!b)) = .ok (decide (¬ P)) by by_cases h : P <;> simp [h]] at this
  exact this
/-- as a proposition -/
theorem b_P {fa : DL.Env → Res Bool} {b : Bool} (ha : EvR ρ fa (.ok b) Tr) : EvR ρ fa (.ok (decide (b = true))) Tr := by
  cases b <;> exact ha
/-! values of and, or, not -/
theorem v_and {fa fb : DL.Env → Res D} {ra rb : Res Bool} (ha : EvR ρ fa ra eB) (hb : EvR ρ fb rb eB) : EvR ρ (eAnd fa fb) (ra.bind fun b => if b = true then rb else .ok false) eB := fun e l =>
  (ha e l).bind fun a b h => by
    rw [show b = _ from h]
    cases a
    · exact ⟨_, rfl, rfl⟩
    · exact hb e l
theorem v_or {fa fb : DL.Env → Res D} {ra rb : Res Bool} (ha : EvR ρ fa ra eB) (hb : EvR ρ fb rb eB) : EvR ρ (eOr fa fb) (ra.bind fun b => if b = true then .ok true else rb) eB := fun e l =>
  (ha e l).bind fun a b h => by
    rw [show b = _ from h]
    cases a
    · exact hb e l
    · exact ⟨_, rfl, rfl⟩
theorem v_andP {fa fb : DL.Env → Res D} {P Q : Prop} [Decidable P] [Decidable Q] (ha : EvR ρ fa (.ok (decide P)) eB) (hb : EvR ρ fb (.ok (decide Q)) eB) : EvR ρ (eAnd fa fb) (.ok (decide (P ∧ Q))) eB := fun e l => by
  have := v_and ha hb e l
  rw [show (Res.ok (decide P)).bind (fun b => if b = true then Res.ok (decide Q) else .ok false) = .ok (decide (P ∧ Q)) by by_cases h : P <;> simp [h]] at this
  exact this
theorem v_orP {fa fb : DL.Env → Res D} {P Q : Prop} [Decidable P] [Decidable Q] (ha : EvR ρ fa (.ok (decide P)) eB) (hb : EvR ρ fb (.ok (decide Q)) eB) : EvR ρ (eOr fa fb) (.ok (decide (P ∨ Q))) eB := fun e l => by
  have := v_or ha hb e l
  rw [show (Res.ok (decide P)).bind (fun b => if b = true then .ok true else Res.ok (decide Q)) = .ok (decide (P ∨ Q)) by by_cases h : P <;> simp [h]] at this
  exact this
theorem v_P {fa : DL.Env → Res D} {b : Bool} (ha : EvR ρ fa (.ok b) eB) : EvR ρ fa (.ok (decide (b = true))) eB := by
  cases b <;> exact ha
end
end DL

/-! Typed readings: statements, loops, defs. -/
namespace DL
open PySem PySem.Spec PyProof.Rows L2
open PySem.Builtin.Int (intBits)

/-- how a turn of a loop ends -/
inductive Oc (S R : Type) where
  | nx (s : S)
  | bk (s : S)
  | rt (v : R)

/-- what a block does, told by r; P: what an end means -/
def JM {T : Type} (r : Res T) (P : T → Out → Prop) (o : Out) : Prop := match r with
  | .ok t => P t o
  | .exc c fs => ∃ e', o = .ex c fs e'
  | .bad => True
def J {T : Type} (ρ : KEnv) (b : DL.Env → Out) (r : Res T) (P : T → Out → Prop) : Prop := ∀ e, Le ρ e → JM r P (b e)
/-- a def's end -/
def PT {R : Type} (E : RE R) : R → Out → Prop := fun v o => ∃ d, E v d ∧ (o = .rt d ∨ o = .ro d ∨ ((∃ e, o = .nx e) ∧ d = .non))
/-- on to the next -/
def PN {S : Type} (ρ : S → KEnv) : S → Out → Prop := fun s o => ∃ e, o = .nx e ∧ Le (ρ s) e
/-- a turn's end -/
def PB {S : Type} (ρ : S → KEnv) : S → Out → Prop := fun s o => ∃ e, (o = .nx e ∨ o = .ct e) ∧ Le (ρ s) e
def PL {S R : Type} (ρ : S → KEnv) (E : RE R) : Oc S R → Out → Prop := fun t o => match t with
  | .nx s => ∃ e, (o = .nx e ∨ o = .ct e) ∧ Le (ρ s) e
  | .bk s => ∃ e, o = .bk e ∧ Le (ρ s) e
  | .rt v => ∃ d, E v d ∧ (o = .rt d ∨ o = .ro d)
/-- a loop's end -/
def PX {S R : Type} (ρ : S → KEnv) (E : RE R) : Oc S R → Out → Prop := fun t o => match t with
  | .nx s => ∃ e, o = .nx e ∧ Le (ρ s) e
  | .bk _ => False
  | .rt v => ∃ d, E v d ∧ (o = .rt d ∨ o = .ro d)
/-- a step that always goes on -/
def Go (ρ : KEnv) (b : DL.Env → Out) (ρ' : KEnv) : Prop := ∀ e, Le ρ e → ∃ e', b e = .nx e' ∧ Le ρ' e'
section
variable {T S R α β : Type} {ρ ρ' : KEnv} {a b c : DL.Env → Out} {r : Res T} {P : T → Out → Prop}
theorem j_go (h : Go ρ a ρ') (k : J ρ' b r P) : J ρ (sSeq a b) r P := fun e l => by
  obtain ⟨e', h1, h2⟩ := h e l
  have : sSeq a b e = b e' := by unfold sSeq; rw [h1]
  rw [this]
  exact k e' h2
theorem j_do {s : Res S} {ρs : S → KEnv} {k : S → Res T} (h : J ρ a s (PN ρs)) (q : ∀ x, J (ρs x) b (k x) P) : J ρ (sSeq a b) (s.bind k) P := fun e l => by
  have := h e l
  cases s with
  | ok x =>
    obtain ⟨e', h1, h2⟩ := this
    have : sSeq a b e = b e' := by unfold sSeq; rw [h1]
    rw [this]
    exact q x e' h2
  | exc cc fs => obtain ⟨e', h1⟩ := this; exact ⟨e', by unfold sSeq; rw [h1]⟩
  | bad => trivial
theorem j_assoc (h : J ρ (sSeq a (sSeq b c)) r P) : J ρ (sSeq (sSeq a b) c) r P := fun e l => by
  have : sSeq (sSeq a b) c e = sSeq a (sSeq b c) e := by unfold sSeq; cases a e <;> rfl
  rw [this]
  exact h e l
theorem j_skip (h : J ρ b r P) : J ρ (sSeq sSkip b) r P := fun e l => h e l
theorem j_if {al : List Nat} {ft : DL.Env → Res Bool} {rt : Res Bool} {ra rb : Res T} (hc : EvR ρ ft rt Tr) (ha : J (fzK al ρ) a ra P) (hb : J (fzK al ρ) b rb P) : J ρ (sIf al ft a b) (rt.bind fun z => if z = true then ra else rb) P := fun e l => by
  have := hc e l
  have f := l.fz al
  cases rt with
  | ok z =>
    obtain ⟨y, h1, h2⟩ := this
    have q : sIf al ft a b e = if y = true then a (fz al e) else b (fz al e) := by rw [sIf_app, h1]
    rw [q, show y = z from h2]
    cases z
    · exact hb _ f
    · exact ha _ f
  | exc cc fs => exact ⟨_, by rw [sIf_app, show ft e = _ from this]⟩
  | bad => trivial
theorem j_ifP {al : List Nat} {ft : DL.Env → Res Bool} {p : Prop} [Decidable p] {ra rb : Res T} (hc : EvR ρ ft (.ok (decide p)) Tr) (ha : J (fzK al ρ) a ra P) (hb : J (fzK al ρ) b rb P) : J ρ (sIf al ft a b) (if p then ra else rb) P := by
  have := j_if hc ha hb
  by_cases h : p
  · rw [if_pos h]; simpa [h] using this
  · rw [if_neg h]; simpa [h] using this
theorem seq_if (al : List Nat) (ft : DL.Env → Res Bool) : sSeq (sIf al ft a b) c = sIf al ft (sSeq a c) (sSeq b c) := by
  funext e
  rw [sSeq_app, sIf_app, sIf_app]
  cases ft e with
  | ok z => cases z <;> rfl
  | exc cc fs => rfl
  | bad => rfl
theorem j_ifs {al : List Nat} {ft : DL.Env → Res Bool} {rt : Res Bool} {ra rb : Res T} (hc : EvR ρ ft rt Tr) (ha : J (fzK al ρ) (sSeq a c) ra P) (hb : J (fzK al ρ) (sSeq b c) rb P) : J ρ (sSeq (sIf al ft a b) c) (rt.bind fun z => if z = true then ra else rb) P := by
  rw [seq_if]; exact j_if hc ha hb
theorem j_ifsP {al : List Nat} {ft : DL.Env → Res Bool} {p : Prop} [Decidable p] {ra rb : Res T} (hc : EvR ρ ft (.ok (decide p)) Tr) (ha : J (fzK al ρ) (sSeq a c) ra P) (hb : J (fzK al ρ) (sSeq b c) rb P) : J ρ (sSeq (sIf al ft a b) c) (if p then ra else rb) P := by
  rw [seq_if]; exact j_ifP hc ha hb
/-! ends -/
theorem j_ret {al : List Nat} {f : DL.Env → Res D} {x : Res R} {E : RE R} {g : R → T} (hP : ∀ v d, E v d → P (g v) (.rt d)) (h : EvR ρ f x E) : J ρ (sSeq (sRet al f) c) (x.bind fun v => .ok (g v)) P := fun e l => by
  have := h e l
  cases x with
  | ok v => obtain ⟨d, h1, h2⟩ := this; show P (g v) _; rw [sSeq_app, sRet_app, h1]; exact hP v d h2
  | exc cc fs => exact ⟨_, by rw [sSeq_app, sRet_app, show f e = _ from this]⟩
  | bad => trivial
theorem j_retT {al : List Nat} {f : DL.Env → Res D} {x : Res R} {E : RE R} (h : EvR ρ f x E) : J ρ (sSeq (sRet al f) c) x (PT E) := by
  have := j_ret (ρ := ρ) (c := c) (al := al) (g := fun v => v) (P := PT E) (fun v d hd => ⟨d, hd, .inl rfl⟩) h
  cases x <;> exact this
theorem j_retL {al : List Nat} {f : DL.Env → Res D} {x : Res R} {E : RE R} {ρs : S → KEnv} (h : EvR ρ f x E) : J ρ (sSeq (sRet al f) c) (x.bind fun v => .ok (.rt v)) (PL ρs E) := j_ret (fun v d hd => ⟨d, hd, .inl rfl⟩) h
theorem j_end {ρs : S → KEnv} {s : S} (h : Sb (ρs s) ρ) : J ρ sSkip (.ok s) (PN ρs) := fun e l => ⟨e, rfl, l.less h⟩
theorem j_endB {ρs : S → KEnv} {s : S} (h : Sb (ρs s) ρ) : J ρ sSkip (.ok s) (PB ρs) := fun e l => ⟨e, .inl rfl, l.less h⟩
theorem j_endL {ρs : S → KEnv} {E : RE R} {s : S} (h : Sb (ρs s) ρ) : J ρ sSkip (.ok (.nx s)) (PL ρs E) := fun e l => ⟨e, .inl rfl, l.less h⟩
/-- a loop that may return, and what comes behind it -/
def thenX (s : Res (Oc S R)) (m : R → T) (k : S → Res T) : Res T := s.bind fun o => match o with
  | .nx x => k x
  | .rt v => .ok (m v)
  | .bk _ => .bad
theorem j_x {s : Res (Oc S R)} {E : RE R} {ρs : S → KEnv} {k : S → Res T} {m : R → T} (hP : ∀ v d o, E v d → (o = .rt d ∨ o = .ro d) → P (m v) o) (h : J ρ a s (PX ρs E)) (q : ∀ x, J (ρs x) b (k x) P) : J ρ (sSeq a b) (thenX s m k) P := fun e l => by
  have := h e l
  unfold thenX
  cases s with
  | ok x =>
    cases x with
    | nx x =>
      obtain ⟨e', h1, h2⟩ := this
      have : sSeq a b e = b e' := by unfold sSeq; rw [h1]
      show JM (k x) P (sSeq a b e)
      rw [this]
      exact q x e' h2
    | rt v =>
      obtain ⟨d, h1, h2⟩ := this
      show P (m v) (sSeq a b e)
      have : sSeq a b e = a e := by unfold sSeq; rcases h2 with h2 | h2 <;> rw [h2]
      rw [this]
      exact hP v d _ h1 h2
    | bk x => exact this.elim
  | exc cc fs => obtain ⟨e', h1⟩ := this; exact ⟨e', by unfold sSeq; rw [h1]⟩
  | bad => trivial
theorem j_xT {s : Res (Oc S R)} {E : RE R} {ρs : S → KEnv} {k : S → Res R} (h : J ρ a s (PX ρs E)) (q : ∀ x, J (ρs x) b (k x) (PT E)) : J ρ (sSeq a b) (thenX s (fun v => v) k) (PT E) :=
  j_x (fun v d o hd ho => ⟨d, hd, ho.imp (fun z => z) .inl⟩) h q
theorem j_xL {S' : Type} {s : Res (Oc S R)} {E : RE R} {ρs : S → KEnv} {ρt : S' → KEnv} {k : S → Res (Oc S' R)} (h : J ρ a s (PX ρs E)) (q : ∀ x, J (ρs x) b (k x) (PL ρt E)) : J ρ (sSeq a b) (thenX s .rt k) (PL ρt E) :=
  j_x (fun v d o hd ho => ⟨d, hd, ho⟩) h q
/-! simple statements -/
theorem g_set {al : List Nat} {i : Nat} {f : DL.Env → Res D} {E : RE α} {x : α} (h : EvR ρ f (.ok x) E) : Go ρ (sSet al i f) ((fzK al ρ).set i (some (sh E x))) := fun e l => by
  obtain ⟨d, h1, h2⟩ := h e l
  exact ⟨_, by rw [sSet_app, h1], (l.fz al).set i ⟨h2, rfl⟩⟩
theorem g_setF {al : List Nat} {i : Nat} {f : DL.Env → Res D} {E : RE α} {x : α} (h : EvR ρ f (.ok x) E) : Go ρ (sSetF al i f) ((fzK al ρ).set i (some (ow E x))) := fun e l => by
  obtain ⟨d, h1, h2⟩ := h e l
  exact ⟨_, by rw [sSetF_app, h1], (l.fz al).set i ⟨h2, rfl⟩⟩
theorem d_set {al : List Nat} {i : Nat} {f : DL.Env → Res D} {E : RE α} {x : Res α} (h : EvR ρ f x E) : J ρ (sSet al i f) x (PN fun v => (fzK al ρ).set i (some (sh E v))) := fun e l => by
  have := h e l
  cases x with
  | ok v => obtain ⟨d, h1, h2⟩ := this; exact ⟨_, by rw [sSet_app, h1], (l.fz al).set i ⟨h2, rfl⟩⟩
  | exc cc fs => exact ⟨_, by rw [sSet_app, show f e = _ from this]⟩
  | bad => trivial
theorem d_setF {al : List Nat} {i : Nat} {f : DL.Env → Res D} {E : RE α} {x : Res α} (h : EvR ρ f x E) : J ρ (sSetF al i f) x (PN fun v => (fzK al ρ).set i (some (ow E v))) := fun e l => by
  have := h e l
  cases x with
  | ok v => obtain ⟨d, h1, h2⟩ := this; exact ⟨_, by rw [sSetF_app, h1], (l.fz al).set i ⟨h2, rfl⟩⟩
  | exc cc fs => exact ⟨_, by rw [sSetF_app, show f e = _ from this]⟩
  | bad => trivial
/-- a pattern takes what is read as E, the names known as ρ then as ρ' -/
def BindR (p : Pat) (E : RE α) (x : α) (ρ ρ' : KEnv) : Prop := ∀ d e, E x d → Le ρ e → ∃ e', p.bind d e = .ok e' ∧ Le ρ' e'
theorem p_nm {i : Nat} {E : RE α} {x : α} : BindR (.nm i) E x ρ (ρ.set i (some (sh E x))) := fun d e h l => ⟨_, rfl, l.set i ⟨h, rfl⟩⟩
/-- .. a list of patterns -/
def BindsR (ps : List Pat) (Q : α → List D → Prop) (x : α) (ρ ρ' : KEnv) : Prop := ∀ ds e, Q x ds → Le ρ e → ∃ e', Pat.binds ps ds e = .ok e' ∧ Le ρ' e'
theorem ps_1 {p : Pat} {E : RE α} {x : α} (h : BindR p E x ρ ρ') : BindsR [p] (q1 E) x ρ ρ' := fun ds e ⟨d, h1, h2⟩ l => by
  obtain ⟨e', a1, a2⟩ := h d e h2 l
  subst h1
  exact ⟨e', by unfold Pat.binds; rw [a1]; rfl, a2⟩
theorem ps_c {p : Pat} {ps : List Pat} {E : RE α} {Q : β → List D → Prop} {x : α} {y : β} {ρ1 : KEnv} (h : BindR p E x ρ ρ1) (t : BindsR ps Q y ρ1 ρ') : BindsR (p :: ps) (qC E Q) (x, y) ρ ρ' := fun ds e ⟨d, r, h1, h2, h3⟩ l => by
  subst h1
  obtain ⟨e1, a1, a2⟩ := h d e h2 l
  obtain ⟨e2, b1, b2⟩ := t r e1 h3 a2
  exact ⟨e2, by unfold Pat.binds; rw [a1]; exact b1, b2⟩
/-- a pair that is a known pair's items, taken apart by name -/
theorem ps_c' {p : Pat} {ps : List Pat} {E : RE α} {Q : β → List D → Prop} {x : α × β} {ρ1 : KEnv} (h : BindR p E x.1 ρ ρ1) (t : BindsR ps Q x.2 ρ1 ρ') : BindsR (p :: ps) (qC E Q) x ρ ρ' := ps_c (x := x.1) (y := x.2) h t
/-- tuples made of items (never a module's constant) -/
def eQ {α : Type} (Q : α → List D → Prop) : RE α := fun a d => ∃ ds, d = .tup ds ∧ Q a ds
theorem p_tp {ps : List Pat} {Q : α → List D → Prop} {x : α} (h : BindsR ps Q x ρ ρ') : BindR (.tp ps) (eQ Q) x ρ ρ' := fun d e ⟨ds, h1, h2⟩ l => by
  subst h1
  exact h ds e h2 l
theorem v_tupQ {fs : DL.Env → Res (List D)} {r : Res α} {Q : α → List D → Prop} (h : EvR ρ fs r Q) : EvR ρ (eTup fs) r (eQ Q) := fun e l => by
  have := h e l
  unfold eTup
  cases r with
  | ok a => obtain ⟨d, e1, h1⟩ := this; rw [e1]; exact ⟨_, rfl, d, rfl, h1⟩
  | exc c fs' => rw [show fs e = _ from this]; rfl
  | bad => trivial
/-! ### loops -/
def forR {α S : Type} : List α → S → (α → S → Res S) → Res S
  | [], s, _ => .ok s
  | a :: l, s, f => (f a s).bind fun s' => forR l s' f
def forX {α S R : Type} : List α → S → (α → S → Res (Oc S R)) → Res (Oc S R)
  | [], s, _ => .ok (.nx s)
  | a :: l, s, f => (f a s).bind fun o => match o with
    | .nx s' => forX l s' f
    | .bk s' => .ok (.nx s')
    | .rt v => .ok (.rt v)
theorem turns_R {p : Pat} {E : RE α} {ρs : S → KEnv} {ρb : α → S → KEnv} {f : α → S → Res S} (hp : ∀ x s, BindR p E x (ρs s) (ρb x s)) (hb : ∀ x s, J (ρb x s) b (f x s) (PB ρs)) :
    ∀ {l : List α} {ds : List D} {s : S} {e : DL.Env}, A2 E l ds → Le (ρs s) e → JM (forR l s f) (PN ρs) (turns p b ds e)
  | [], ds, s, e, h, l => by rw [show ds = [] from h]; exact ⟨e, rfl, l⟩
  | x :: xs, _, s, e, ⟨d, r, rfl, h1, h2⟩, l => by
    obtain ⟨e1, a1, a2⟩ := hp x s d e h1 l
    have := hb x s e1 a2
    unfold forR turns
    rw [a1]
    cases q : f x s with
    | ok s' =>
      rw [q] at this
      obtain ⟨e2, b1, b2⟩ := this
      have ih := turns_R hp hb (s := s') h2 b2
      rw [Res.bind_ok]
      rcases b1 with b1 | b1 <;> (dsimp only; rw [b1]; exact ih)
    | exc c fs => rw [q] at this; obtain ⟨e2, b1⟩ := this; exact ⟨e2, by dsimp only; rw [b1]⟩
    | bad => trivial
theorem d_for {al : List Nat} {p : Pat} {fi : DL.Env → Res (List D)} {E : RE α} {xs : Res (List α)} {ρs : S → KEnv} {ρb : α → S → KEnv} {f : α → S → Res S} {s : S}
    (hi : EvR ρ fi xs (A2 E)) (h0 : Sb (ρs s) (fzK al ρ)) (hp : ∀ x s, BindR p E x (ρs s) (ρb x s)) (hb : ∀ x s, J (ρb x s) b (f x s) (PB ρs)) : J ρ (sFor al p fi b) (xs.bind fun l => forR l s f) (PN ρs) := fun e l => by
  have := hi e l
  cases xs with
  | ok xs =>
    obtain ⟨ds, h1, h2⟩ := this
    have t := turns_R hp hb h2 ((l.fz al).less h0)
    rw [sFor_app, h1]
    exact t
  | exc c fs => exact ⟨_, by rw [sFor_app, show fi e = _ from this]⟩
  | bad => trivial
theorem d_forP {al : List Nat} {p : Pat} {fi : DL.Env → Res (List D)} {E : RE α} {xs : List α} {ρs : S → KEnv} {ρb : α → S → KEnv} {f : α → S → Res S} {s : S}
    (hi : EvR ρ fi (.ok xs) (A2 E)) (h0 : Sb (ρs s) (fzK al ρ)) (hp : ∀ x s, BindR p E x (ρs s) (ρb x s)) (hb : ∀ x s, J (ρb x s) b (f x s) (PB ρs)) : J ρ (sFor al p fi b) (forR xs s f) (PN ρs) := d_for hi h0 hp hb
theorem turns_X {p : Pat} {E : RE α} {E' : RE R} {ρs : S → KEnv} {ρb : α → S → KEnv} {f : α → S → Res (Oc S R)} (hp : ∀ x s, BindR p E x (ρs s) (ρb x s)) (hb : ∀ x s, J (ρb x s) b (f x s) (PL ρs E')) :
    ∀ {l : List α} {ds : List D} {s : S} {e : DL.Env}, A2 E l ds → Le (ρs s) e → JM (forX l s f) (PX ρs E') (turns p b ds e)
  | [], ds, s, e, h, l => by rw [show ds = [] from h]; exact ⟨e, rfl, l⟩
  | x :: xs, _, s, e, ⟨d, r, rfl, h1, h2⟩, l => by
    obtain ⟨e1, a1, a2⟩ := hp x s d e h1 l
    have := hb x s e1 a2
    unfold forX turns
    rw [a1]
    cases q : f x s with
    | ok o =>
      rw [q] at this
      cases o with
      | nx s' =>
        obtain ⟨e2, b1, b2⟩ := this
        have ih := turns_X hp hb (s := s') h2 b2
        rw [Res.bind_ok]
        rcases b1 with b1 | b1 <;> (dsimp only; rw [b1]; exact ih)
      | bk s' =>
        obtain ⟨e2, b1, b2⟩ := this
        rw [Res.bind_ok]
        dsimp only
        rw [b1]
        exact ⟨e2, rfl, b2⟩
      | rt v =>
        obtain ⟨d, b1, b2⟩ := this
        rw [Res.bind_ok]
        dsimp only
        rcases b2 with b2 | b2 <;> rw [b2]
        · exact ⟨d, b1, .inl rfl⟩
        · exact ⟨d, b1, .inr rfl⟩
    | exc c fs => rw [q] at this; obtain ⟨e2, b1⟩ := this; exact ⟨e2, by dsimp only; rw [b1]⟩
    | bad => trivial
theorem d_forX {al : List Nat} {p : Pat} {fi : DL.Env → Res (List D)} {E : RE α} {E' : RE R} {xs : Res (List α)} {ρs : S → KEnv} {ρb : α → S → KEnv} {f : α → S → Res (Oc S R)} {s : S}
    (hi : EvR ρ fi xs (A2 E)) (h0 : Sb (ρs s) (fzK al ρ)) (hp : ∀ x s, BindR p E x (ρs s) (ρb x s)) (hb : ∀ x s, J (ρb x s) b (f x s) (PL ρs E')) : J ρ (sFor al p fi b) (xs.bind fun l => forX l s f) (PX ρs E') := fun e l => by
  have := hi e l
  cases xs with
  | ok xs =>
    obtain ⟨ds, h1, h2⟩ := this
    have t := turns_X hp hb h2 ((l.fz al).less h0)
    rw [sFor_app, h1]
    exact t
  | exc c fs => exact ⟨_, by rw [sFor_app, show fi e = _ from this]⟩
  | bad => trivial
theorem d_forXP {al : List Nat} {p : Pat} {fi : DL.Env → Res (List D)} {E : RE α} {E' : RE R} {xs : List α} {ρs : S → KEnv} {ρb : α → S → KEnv} {f : α → S → Res (Oc S R)} {s : S}
    (hi : EvR ρ fi (.ok xs) (A2 E)) (h0 : Sb (ρs s) (fzK al ρ)) (hp : ∀ x s, BindR p E x (ρs s) (ρb x s)) (hb : ∀ x s, J (ρb x s) b (f x s) (PL ρs E')) : J ρ (sFor al p fi b) (forX xs s f) (PX ρs E') := d_forX hi h0 hp hb
/-! while -/
/-! ### comprehensions -/
/-- so long that a list of them can be made -/
def Fits (n : Nat) : Prop := n ≤ sizeLine
def mapR {α β : Type} : List α → (α → Res β) → Res (List β)
  | [], _ => .ok []
  | a :: l, f => (f a).bind fun y => (mapR l f).bind fun ys => .ok (y :: ys)
def filR {α β : Type} : List α → (α → Res Bool) → (α → Res β) → Res (List β)
  | [], _, _ => .ok []
  | a :: l, c, f => (c a).bind fun z => if z = true then (f a).bind fun y => (filR l c f).bind fun ys => .ok (y :: ys) else filR l c f
/-- errors within a comprehension are not told -/
def Res.noX {α : Type} : Res α → Res α
  | .exc _ _ => .bad
  | r => r
open Classical in
noncomputable def compR {α β : Type} (l : List α) (f : α → Res β) : Res (List β) := if Fits l.length then (mapR l f).noX else .bad
open Classical in
noncomputable def compF {α β : Type} (l : List α) (c : α → Res Bool) (f : α → Res β) : Res (List β) := if Fits l.length then (filR l c f).noX else .bad
theorem compL_R {p : Pat} {ft : DL.Env → Res Bool} {fe : DL.Env → Res D} {E : RE α} {E' : RE β} {ρ : KEnv} {ρb : α → KEnv} {c : α → Res Bool} {f : α → Res β} (hp : ∀ x, BindR p E x ρ (ρb x)) (hc : ∀ x, EvR (ρb x) ft (c x) Tr) (he : ∀ x, EvR (ρb x) fe (f x) E') :
    ∀ {l : List α} {ds : List D} {e : DL.Env} {ys : List β}, A2 E l ds → Le ρ e → filR l c f = .ok ys → ∃ es, compL e p ft fe ds = .ok es ∧ A2 E' ys es
  | [], ds, e, ys, h, l, q => by
    rw [show ds = [] from h]
    cases (show Res.ok [] = Res.ok ys from q)
    exact ⟨[], rfl, rfl⟩
  | x :: xs, _, e, ys, ⟨d, r, rfl, h1, h2⟩, l, q => by
    obtain ⟨e1, a1, a2⟩ := hp x d e h1 l
    have b1 := hc x e1 a2
    unfold filR at q
    unfold compL
    rw [a1]
    cases hz : c x with
    | ok z =>
      rw [hz, Res.bind_ok] at q
      rw [hz] at b1
      obtain ⟨z', c1, c2⟩ := b1
      dsimp only
      rw [c1, show z' = z from c2]
      cases z with
      | false =>
        rw [if_neg (by simp)] at q
        exact compL_R hp hc he h2 l q
      | true =>
        rw [if_pos rfl] at q
        have b2 := he x e1 a2
        cases hy : f x with
        | ok y =>
          rw [hy, Res.bind_ok] at q
          rw [hy] at b2
          obtain ⟨y', d1, d2⟩ := b2
          cases hr : filR xs c f with
          | ok zs =>
            rw [hr, Res.bind_ok] at q
            cases q
            obtain ⟨es, f1, f2⟩ := compL_R hp hc he h2 l hr
            exact ⟨y' :: es, by dsimp only; rw [d1]; dsimp only; rw [f1]; rfl, y', es, rfl, d2, f2⟩
          | exc cc fs => rw [hr] at q; cases q
          | bad => rw [hr] at q; cases q
        | exc cc fs => rw [hy] at q; cases q
        | bad => rw [hy] at q; cases q
    | exc cc fs => rw [hz] at q; cases q
    | bad => rw [hz] at q; cases q
theorem filR_yes (f : α → Res β) : ∀ l : List α, filR l (fun _ => .ok true) f = mapR l f
  | [] => rfl
  | a :: l => by
    unfold filR mapR
    rw [Res.bind_ok, if_pos rfl, filR_yes f l]
theorem v_compF {own : List Nat} {p : Pat} {fi : DL.Env → Res (List D)} {ft : DL.Env → Res Bool} {fe : DL.Env → Res D} {E : RE α} {E' : RE β} {xs : Res (List α)} {ρb : α → KEnv} {c : α → Res Bool} {f : α → Res β} (hi : EvR ρ fi xs (A2 E))
    (hp : ∀ x, BindR p E x (wipeK ρ own) (ρb x)) (hc : ∀ x, EvR (ρb x) ft (c x) Tr) (he : ∀ x, EvR (ρb x) fe (f x) E') : EvR ρ (eComp own p fi ft fe) (xs.bind fun l => compF l c f) (eL E') := fun e l => by
  unfold eComp
  refine (hi e l).bind fun xs ds h => ?_
  unfold compF
  by_cases hl : Fits xs.length
  · rw [if_pos hl]
    cases q : filR xs c f with
    | ok ys =>
      obtain ⟨es, h1, h2⟩ := compL_R hp hc he h (l.wipe own) q
      rw [if_pos (by rw [A2.length h]; exact hl), h1]
      exact ⟨_, rfl, es, rfl, h2⟩
    | exc cc fs => trivial
    | bad => trivial
  · rw [if_neg hl]; trivial
theorem v_compFP {own : List Nat} {p : Pat} {fi : DL.Env → Res (List D)} {ft : DL.Env → Res Bool} {fe : DL.Env → Res D} {E : RE α} {E' : RE β} {xs : List α} {ρb : α → KEnv} {c : α → Res Bool} {f : α → Res β} (hi : EvR ρ fi (.ok xs) (A2 E))
    (hp : ∀ x, BindR p E x (wipeK ρ own) (ρb x)) (hc : ∀ x, EvR (ρb x) ft (c x) Tr) (he : ∀ x, EvR (ρb x) fe (f x) E') : EvR ρ (eComp own p fi ft fe) (compF xs c f) (eL E') := v_compF hi hp hc he
theorem v_comp {own : List Nat} {p : Pat} {fi : DL.Env → Res (List D)} {fe : DL.Env → Res D} {E : RE α} {E' : RE β} {xs : Res (List α)} {ρb : α → KEnv} {f : α → Res β} (hi : EvR ρ fi xs (A2 E))
    (hp : ∀ x, BindR p E x (wipeK ρ own) (ρb x)) (he : ∀ x, EvR (ρb x) fe (f x) E') : EvR ρ (eComp own p fi bYes fe) (xs.bind fun l => compR l f) (eL E') := by
  have := v_compF (c := fun _ => .ok true) hi hp (fun x e l => ⟨true, rfl, rfl⟩) he
  have q : (fun l => compF l (fun _ => .ok true) f) = fun l => compR l f := by
    funext l
    unfold compF compR
    rw [filR_yes]
  rw [q] at this
  exact this
/-! ### defs -/
theorem Le.rep : ∀ n, Le (List.replicate n none) (List.replicate n none)
  | 0 => rfl
  | n + 1 => ⟨none, List.replicate n none, rfl, fun P h => (by cases h), Le.rep n⟩
def LeA (ds : List D) (ρ : KEnv) : Prop := A2 (fun (r : Option Kn) (d : D) => ∀ P, r = some P → P d false) ρ ds
theorem LeA.nil : LeA [] [] := rfl
theorem LeA.cons {E : RE α} {x : α} {d : D} {ds : List D} {ρ : KEnv} (h : E x d) (t : LeA ds ρ) : LeA (d :: ds) (some (sh E x) :: ρ) := ⟨d, ds, rfl, fun P hP => by cases hP; exact ⟨h, rfl⟩, t⟩
theorem LeA.le : ∀ {ds : List D} {ρ : KEnv} {n : Nat}, LeA ds ρ → Le (ρ ++ List.replicate n none) (ds.map (fun d => some (d, false)) ++ List.replicate n none)
  | ds, [], n, h => by rw [show ds = [] from h]; exact Le.rep n
  | _, r :: ρ, n, ⟨d, ds, rfl, h, t⟩ => ⟨some (d, false), _, rfl, fun P hP => ⟨d, false, rfl, h P hP⟩, LeA.le t⟩
theorem r_def {n m k : Nat} {fb : DL.Env → Out} {ds : List D} {x : Res R} {E : RE R} (h : LeA ds ρ) (hk : m - n = k) (j : J (ρ ++ List.replicate k none) fb x (PT E)) : Rf (runDef n m fb ds) x E := by
  subst hk
  have := j _ h.le
  unfold runDef env0
  cases x with
  | ok v =>
    obtain ⟨d, h1, h2⟩ := this
    rcases h2 with h2 | h2 | ⟨⟨e, h2⟩, h3⟩
    · rw [h2]; exact ⟨d, rfl, h1⟩
    · rw [h2]; exact ⟨d, rfl, h1⟩
    · rw [h2]; subst h3; exact ⟨_, rfl, h1⟩
  | exc c fs => obtain ⟨e', h2⟩ := this; rw [h2]; rfl
  | bad => trivial
end
end DL

/-! Typed readings: the operations. -/
namespace DL
open PySem PySem.Spec PyProof.Rows L2
open PySem.Builtin.Int (intBits)

/-! ### whole numbers -/
def MulOk (i j : Int) : Prop := intBits i + intBits j ≤ big
def DivOk (j : Int) : Prop := j ≠ 0 ∧ j.natAbs.log2 < 9000
open Classical in
noncomputable def mulR (i j : Int) : Res Int := if MulOk i j then .ok (i * j) else .bad
open Classical in
noncomputable def divR (i j : Int) : Res Int := if DivOk j then .ok (i.fdiv j) else .bad
open Classical in
noncomputable def modR (i j : Int) : Res Int := if j ≠ 0 then .ok (i.fmod j) else .bad
theorem mulR_ok {n m : Nat} {i j : Int} (h : Sm n i) (k : Sm m j) (l : n + m ≤ big) : mulR i j = .ok (i * j) := if_pos (h.two k l)
theorem modR_pos {i j : Int} (h : 0 < j) : modR i j = .ok (i % j) := by
  unfold modR
  rw [if_pos (by omega), Int.fmod_eq_emod_of_nonneg _ (by omega)]
section
variable {α β γ : Type}
theorem o_add (a b : Int) : ∀ x y, eI a x → eI b y → Rf (dAdd x y) (.ok (a + b)) eI := by rintro _ _ rfl rfl; exact ⟨_, rfl, rfl⟩
theorem o_sub (a b : Int) : ∀ x y, eI a x → eI b y → Rf (dSub x y) (.ok (a - b)) eI := by rintro _ _ rfl rfl; exact ⟨_, rfl, rfl⟩
theorem o_mul (a b : Int) : ∀ x y, eI a x → eI b y → Rf (dMul x y) (mulR a b) eI := by
  rintro _ _ rfl rfl
  unfold mulR
  by_cases h : MulOk a b
  · rw [if_pos h]; exact ⟨_, if_pos h, rfl⟩
  · rw [if_neg h]; trivial
theorem o_div (a b : Int) : ∀ x y, eI a x → eI b y → Rf (dDiv x y) (divR a b) eI := by
  rintro _ _ rfl rfl
  unfold divR
  by_cases h : DivOk b
  · rw [if_pos h]; exact ⟨_, if_pos h, rfl⟩
  · rw [if_neg h]; trivial
theorem o_mod (a b : Int) : ∀ x y, eI a x → eI b y → Rf (dMod x y) (modR a b) eI := by
  rintro _ _ rfl rfl
  unfold modR
  by_cases h : b ≠ 0
  · rw [if_pos h]; exact ⟨_, if_pos h, rfl⟩
  · rw [if_neg h]; trivial
/-- by a written number above nought -/
theorem o_divL {b : Int} (a : Int) (h : 0 < b) (k : b < 18446744073709551616) : ∀ x y, eI a x → eI b y → Rf (dDiv x y) (.ok (a / b)) eI := by
  rintro _ _ rfl rfl; exact ⟨_, dDiv_lit _ _ h k, rfl⟩
theorem o_modL {b : Int} (a : Int) (h : 0 < b) : ∀ x y, eI a x → eI b y → Rf (dMod x y) (.ok (a % b)) eI := by
  rintro _ _ rfl rfl; exact ⟨_, dMod_lit _ _ h, rfl⟩
theorem o_powL {a b c : Int} (h : dPow (.int a) (.int b) = .ok (.int c)) : ∀ x y, eI a x → eI b y → Rf (dPow x y) (.ok c) eI := by
  rintro _ _ rfl rfl; exact ⟨_, h, rfl⟩
theorem v_neg {ρ : KEnv} {f : DL.Env → Res D} {a : Int} (h : EvR ρ f (.ok a) eI) : EvR ρ (eNeg f) (.ok (-a)) eI := fun e l => by
  obtain ⟨d, h1, h2⟩ := h e l
  exact ⟨_, by rw [eNeg_app, h1, show d = _ from h2]; rfl, rfl⟩
theorem o_lt (a b : Int) : ∀ x y, eI a x → eI b y → Rf (dLt x y) (.ok (decide (a < b))) eB := by rintro _ _ rfl rfl; exact ⟨_, dLt_int a b, rfl⟩
theorem o_le (a b : Int) : ∀ x y, eI a x → eI b y → Rf (dLe x y) (.ok (decide (a ≤ b))) eB := by rintro _ _ rfl rfl; exact ⟨_, dLe_int a b, rfl⟩
theorem o_max (a b : Int) : ∀ x y, eI a x → eI b y → Rf (dMax x y) (.ok (max a b)) eI := by
  rintro _ _ rfl rfl
  refine ⟨_, dMax_int a b, ?_⟩
  show D.int _ = D.int _
  congr 1
  split <;> omega
theorem o_min (a b : Int) : ∀ x y, eI a x → eI b y → Rf (dMin x y) (.ok (min a b)) eI := by
  rintro _ _ rfl rfl
  refine ⟨_, dMin_int a b, ?_⟩
  show D.int _ = D.int _
  congr 1
  split <;> omega
theorem o_intB (b : Bool) : ∀ x, eB b x → Rf (dInt x) (.ok (if b = true then 1 else 0)) eI := by rintro _ rfl; exact ⟨_, rfl, rfl⟩
/-! ### equality -/
structure EqE {α : Type} [DecidableEq α] (E : RE α) (n : Nat) : Prop where
  pl : ∀ a d, E a d → d.pl n = true
  beq : ∀ a b x y, E a x → E b y → PyData.eqv x.py y.py = decide (a = b)
structure EqQ {α : Type} [DecidableEq α] (Q : α → List D → Prop) (n : Nat) : Prop where
  pl : ∀ a d, Q a d → D.pls d n = true
  beq : ∀ a b x y, Q a x → Q b y → PyData.eqvAll (D.pys x) (D.pys y) = decide (a = b)
theorem EqE.int (n : Nat) : EqE eI n := ⟨by rintro a _ rfl; rfl, by
  rintro a b _ _ rfl rfl
  simp [D.py, PyData.eqv]
  exact Bool.eq_iff_iff.mpr (by simp)⟩
theorem EqE.bl (n : Nat) : EqE eB n := ⟨by rintro a _ rfl; rfl, by
  rintro a b _ _ rfl rfl
  cases a <;> cases b <;> rfl⟩
theorem EqE.row (n : Nat) : EqE eR (n + 1) := ⟨by rintro a _ rfl; exact ans_pl a n, by rintro a b _ _ rfl rfl; exact beq_ans a b⟩
theorem a2_pls [DecidableEq α] {E : RE α} {n : Nat} (h : EqE E n) : ∀ {l : List α} {ds : List D}, A2 E l ds → D.pls ds n = true
  | [], _, e => by rw [show _ = [] from e]; rfl
  | a :: l, _, ⟨d, r, rfl, x, y⟩ => by rw [D.pls, h.pl a d x, a2_pls h y]; rfl
theorem a2_eqvs [DecidableEq α] {E : RE α} {n : Nat} (h : EqE E n) : ∀ {l l' : List α} {ds es : List D}, A2 E l ds → A2 E l' es → PyData.eqvAll (D.pys ds) (D.pys es) = decide (l = l')
  | [], [], _, _, e, f => by rw [show _ = [] from e, show _ = [] from f]; simp [D.pys, PyData.eqvAll]
  | [], _ :: _, _, _, e, ⟨d, r, rfl, _, _⟩ => by rw [show _ = [] from e]; simp [D.pys, PyData.eqvAll]
  | _ :: _, [], _, _, ⟨d, r, rfl, _, _⟩, f => by rw [show _ = [] from f]; simp [D.pys, PyData.eqvAll]
  | a :: l, b :: l', _, _, ⟨d, r, rfl, x1, x2⟩, ⟨d', r', rfl, y1, y2⟩ => by
    simp only [D.pys, PyData.eqvAll, h.beq a b d d' x1 y1, a2_eqvs h x2 y2]
    by_cases h1 : a = b <;> by_cases h2 : l = l' <;> simp [h1, h2]
theorem EqE.lst [DecidableEq α] {E : RE α} {n : Nat} (h : EqE E n) : EqE (eL E) (n + 1) := ⟨by
  rintro a _ ⟨ds, rfl, r⟩; exact a2_pls h r, by
  rintro a b _ _ ⟨ds, rfl, r⟩ ⟨es, rfl, s⟩
  rw [D.py, D.py, PyData.eqv]; exact a2_eqvs h r s⟩
theorem EqE.tup [DecidableEq α] {E : RE α} {n : Nat} (h : EqE E n) : EqE (eT E) (n + 1) := ⟨by
  rintro a _ ⟨ds, rfl, r⟩; exact a2_pls h r, by
  rintro a b _ _ ⟨ds, rfl, r⟩ ⟨es, rfl, s⟩
  rw [D.py, D.py, PyData.eqv]; exact a2_eqvs h r s⟩
theorem EqQ.one [DecidableEq α] {E : RE α} {n : Nat} (h : EqE E n) : EqQ (q1 E) n := ⟨by
  rintro a _ ⟨d, rfl, r⟩; simp [D.pls, h.pl a d r], by
  rintro a b _ _ ⟨d, rfl, r⟩ ⟨d', rfl, r'⟩
  simp only [D.pys, PyData.eqvAll, h.beq a b d d' r r', Bool.and_true]⟩
theorem EqQ.c [DecidableEq α] [DecidableEq β] {E : RE α} {Q : β → List D → Prop} {n : Nat} (h : EqE E n) (k : EqQ Q n) : EqQ (qC E Q) n := ⟨by
  rintro a _ ⟨d, r, rfl, h1, h2⟩; simp [D.pls, h.pl _ d h1, k.pl _ r h2], by
  rintro a b _ _ ⟨d, r, rfl, h1, h2⟩ ⟨d', r', rfl, h3, h4⟩
  simp only [D.pys, PyData.eqvAll, h.beq _ _ d d' h1 h3, k.beq _ _ r r' h2 h4]
  obtain ⟨a1, a2⟩ := a
  obtain ⟨b1, b2⟩ := b
  by_cases h1 : a1 = b1 <;> by_cases h2 : a2 = b2 <;> simp [h1, h2]⟩
theorem dEq_of {x y : D} {b : Bool} (h : x.pl 60 = true) (k : y.pl 60 = true) (e : PyData.eqv x.py y.py = b) : dEq x y = .ok (.bl b) := by
  cases x with
  | str s =>
    cases y with
    | str t =>
      subst e
      simp [dEq, D.py, PyData.eqv]
      exact Bool.eq_iff_iff.mpr (by simp)
    | _ => simp only [dEq]; rw [if_pos ⟨h, k⟩, D.beq, e]
  | _ => simp only [dEq]; rw [if_pos ⟨h, k⟩, D.beq, e]
theorem dNe_of {x y : D} {b : Bool} (h : x.pl 60 = true) (k : y.pl 60 = true) (e : PyData.eqv x.py y.py = b) : dNe x y = .ok (.bl (!b)) := by
  cases x with
  | str s =>
    cases y with
    | str t =>
      subst e
      simp [dNe, D.py, PyData.eqv]
      exact Bool.eq_iff_iff.mpr (by simp)
    | _ => simp only [dNe]; rw [if_pos ⟨h, k⟩, D.beq, e]
  | _ => simp only [dNe]; rw [if_pos ⟨h, k⟩, D.beq, e]
theorem o_eq [DecidableEq α] {E : RE α} (h : EqE E 60) (a b : α) : ∀ x y, E a x → E b y → Rf (dEq x y) (.ok (decide (a = b))) eB := fun x y hx hy =>
  ⟨_, dEq_of (h.pl a x hx) (h.pl b y hy) (h.beq a b x y hx hy), rfl⟩
theorem o_ne [DecidableEq α] {E : RE α} (h : EqE E 60) (a b : α) : ∀ x y, E a x → E b y → Rf (dNe x y) (.ok (decide (a ≠ b))) eB := fun x y hx hy =>
  ⟨_, dNe_of (h.pl a x hx) (h.pl b y hy) (h.beq a b x y hx hy), by simp [eB]⟩
/-! ### raw data -/
def rawB (r : Res D) : Res Bool := r.bind D.asB
theorem o_raw (g : D → D → Res D) (a b : D) : ∀ x y, eD a x → eD b y → Rf (g x y) (g a b) eD := by
  rintro _ _ rfl rfl
  cases g _ _ with
  | ok d => exact ⟨d, rfl, rfl⟩
  | exc c fs => rfl
  | bad => trivial
theorem rf_rawB (r : Res D) : Rf r (rawB r) eB := by
  unfold rawB
  cases r with
  | ok d =>
    cases d with
    | bl b => exact ⟨_, rfl, rfl⟩
    | _ => trivial
  | exc c fs => rfl
  | bad => trivial
theorem o_rawB (g : D → D → Res D) (a b : D) : ∀ x y, eD a x → eD b y → Rf (g x y) (rawB (g a b)) eB := by
  rintro _ _ rfl rfl
  exact rf_rawB _
theorem o_raw1 (g : D → Res D) (a : D) : ∀ x, eD a x → Rf (g x) (g a) eD := by
  rintro _ rfl
  cases g _ with
  | ok d => exact ⟨d, rfl, rfl⟩
  | exc c fs => rfl
  | bad => trivial
def D.asI : D → Res Int
  | .int i => .ok i
  | _ => .bad
def D.asS : D → Res Str
  | .str i => .ok i
  | _ => .bad
def D.asItems : D → Res (List D)
  | .lst xs => .ok xs
  | .tup xs => .ok xs
  | .con xs => .ok xs
  | _ => .bad
def D.asT : D → Res (List D)
  | .tup xs => .ok xs
  | _ => .bad
def asIs : List D → Res (List Int)
  | [] => .ok []
  | .int i :: r => (asIs r).bind fun l => .ok (i :: l)
  | _ => .bad
def D.asR : D → Res (List Int)
  | .tup xs => asIs xs
  | _ => .bad
theorem asIs_ok : ∀ {ds : List D} {l : List Int}, asIs ds = .ok l → ds = l.map D.int
  | [], l, h => by cases h; rfl
  | .int i :: r, l, h => by
    unfold asIs at h
    cases q : asIs r with
    | ok l' => rw [q] at h; cases h; rw [asIs_ok q]; rfl
    | exc c fs => rw [q] at h; cases h
    | bad => rw [q] at h; cases h
  | .non :: _, _, h => by cases h
  | .bl _ :: _, _, h => by cases h
  | .str _ :: _, _, h => by cases h
  | .obj _ :: _, _, h => by cases h
  | .err _ _ :: _, _, h => by cases h
  | .exn _ _ _ :: _, _, h => by cases h
  | .tup _ :: _, _, h => by cases h
  | .con _ :: _, _, h => by cases h
  | .lst _ :: _, _, h => by cases h
  | .dct _ _ :: _, _, h => by cases h
theorem asIs_nx : ∀ (ds : List D) (c : String) (fs : List (D × D)), asIs ds ≠ .exc c fs
  | [], c, fs, h => by cases h
  | .int i :: r, c, fs, h => by
    unfold asIs at h
    have := asIs_nx r
    cases q : asIs r with
    | ok l' => rw [q] at h; cases h
    | exc c' fs' => exact this _ _ q
    | bad => rw [q] at h; cases h
  | .non :: _, _, _, h => by cases h
  | .bl _ :: _, _, _, h => by cases h
  | .str _ :: _, _, _, h => by cases h
  | .obj _ :: _, _, _, h => by cases h
  | .err _ _ :: _, _, _, h => by cases h
  | .exn _ _ _ :: _, _, _, h => by cases h
  | .tup _ :: _, _, _, h => by cases h
  | .con _ :: _, _, _, h => by cases h
  | .lst _ :: _, _, _, h => by cases h
  | .dct _ _ :: _, _, _, h => by cases h
section
variable {ρ : KEnv} {f : DL.Env → Res D} {r : Res D}
theorem v_asI (h : EvR ρ f r eD) : EvR ρ f (r.bind D.asI) eI := v_as h (fun a d c h1 h2 => by
  rw [show d = a from h1]; cases a <;> cases h2; rfl) fun a c fs h => by cases a <;> cases h
theorem v_asS (h : EvR ρ f r eD) : EvR ρ f (r.bind D.asS) eS := v_as h (fun a d c h1 h2 => by
  rw [show d = a from h1]; cases a <;> cases h2; rfl) fun a c fs h => by cases a <;> cases h
theorem v_asR (h : EvR ρ f r eD) : EvR ρ f (r.bind D.asR) eR := v_as h (fun a d c h1 h2 => by
  rw [show d = a from h1]
  cases a with
  | tup xs => rw [asIs_ok h2]; rfl
  | _ => cases h2) fun a c fs h => by
  cases a with
  | tup xs => exact asIs_nx _ _ _ h
  | _ => cases h
/-- what is walked, raw -/
theorem v_seqD (h : EvR ρ f r eD) : EvR ρ (iSeq f) (r.bind D.asItems) (A2 eD) := fun e l => by
  rw [iSeq_app]
  exact (h e l).bind fun a d hd => by
    rw [show d = a from hd]
    cases a <;> first | trivial | exact ⟨_, rfl, A2.fn.mpr (by simp)⟩
end
/-! ### lists and tuples -/
def getL {α : Type} (l : List α) (i : Int) : Res α := match atI l i with
  | some a => .ok a
  | none => .bad
theorem atI_A2 {E : RE α} {l : List α} {ds : List D} (h : A2 E l ds) {i : Int} {a : α} (q : atI l i = some a) : ∃ d, atI ds i = some d ∧ E a d := by
  unfold atI at q ⊢
  rw [h.length]
  cases k : ixN l.length i with
  | none => rw [k] at q; cases q
  | some j => rw [k] at q; exact h.get q
theorem o_ixA {x : D} (h : ∀ t kvs, x ≠ .dct t kvs) (y : D) : dIxA x y = dIx x y := by
  unfold dIxA
  cases x with
  | dct t kvs => exact absurd rfl (h t kvs)
  | _ => rfl
theorem o_ixL {E : RE α} (l : List α) (i : Int) : ∀ x y, eL E l x → eI i y → Rf (dIx x y) (getL l i) E := by
  rintro _ _ ⟨ds, rfl, r⟩ rfl
  unfold getL
  cases q : atI l i with
  | none => trivial
  | some a => obtain ⟨d, h1, h2⟩ := atI_A2 r q; exact ⟨d, by simp [dIx, h1], h2⟩
theorem o_ixT {E : RE α} (l : List α) (i : Int) : ∀ x y, eT E l x → eI i y → Rf (dIx x y) (getL l i) E := by
  rintro _ _ ⟨ds, rfl, r⟩ rfl
  unfold getL
  cases q : atI l i with
  | none => trivial
  | some a => obtain ⟨d, h1, h2⟩ := atI_A2 r q; exact ⟨d, by simp [dIx, h1], h2⟩
theorem o_ixR (l : List Int) (i : Int) : ∀ x y, eR l x → eI i y → Rf (dIx x y) (getL l i) eI := by
  rintro _ y rfl h
  exact o_ixT (E := eI) l i _ y ⟨_, rfl, A2.fn.mpr rfl⟩ h
theorem o_ixAL {E : RE α} (l : List α) (i : Int) : ∀ x y, eL E l x → eI i y → Rf (dIxA x y) (getL l i) E := fun x y h k => by
  rw [o_ixA (by obtain ⟨ds, rfl, r⟩ := h; intros; simp)]
  exact o_ixL l i x y h k
theorem o_ixAR (l : List Int) (i : Int) : ∀ x y, eR l x → eI i y → Rf (dIxA x y) (getL l i) eI := fun x y h k => by
  rw [o_ixA (by rw [show x = _ from h]; intros; simp [ans])]
  exact o_ixR l i x y h k
@[simp] theorem getL_zero (a : α) (l : List α) : getL (a :: l) 0 = .ok a := by simp [getL, atI, ixN]
theorem getL_nat {l : List α} {i : Nat} {a : α} (h : l[i]? = some a) : getL l (i : Int) = .ok a := by
  unfold getL
  rw [atI_nat h]
/-- some item stands at every place, told from either end -/
theorem getL_mem {l : List α} {i : Int} (h : -(l.length : Int) ≤ i) (k : i < l.length) : ∃ a ∈ l, getL l i = .ok a := by
  obtain ⟨j, a, b⟩ := ixN_of h k
  exact ⟨l[j], List.getElem_mem _, by simp [getL, atI, a, b]⟩
theorem r_t (a : List Int) : ∀ d, eR a d → eT eI a d := fun d h => ⟨_, h, A2.fn.mpr rfl⟩
theorem o_lenL {E : RE α} (l : List α) : ∀ x, eL E l x → Rf (dLen x) (.ok (l.length : Int)) eI := by rintro _ ⟨ds, rfl, r⟩; exact ⟨_, rfl, by rw [← r.length]; rfl⟩
theorem o_lenR (l : List Int) : ∀ x, eR l x → Rf (dLen x) (.ok (l.length : Int)) eI := by rintro _ rfl; exact ⟨_, rfl, by simp [eI]⟩
theorem o_tupL {E : RE α} (l : List α) : ∀ x, eL E l x → Rf (dTuple x) (.ok l) (eT E) := by rintro _ ⟨ds, rfl, r⟩; exact ⟨_, rfl, ds, rfl, r⟩
theorem o_tupT {E : RE α} (l : List α) : ∀ x, eT E l x → Rf (dTuple x) (.ok l) (eT E) := by rintro _ ⟨ds, rfl, r⟩; exact ⟨_, rfl, ds, rfl, r⟩
theorem o_tupLR (l : List Int) : ∀ x, eL eI l x → Rf (dTuple x) (.ok l) eR := by rintro _ ⟨ds, rfl, r⟩; exact ⟨_, rfl, by rw [A2.fn.mp r]; rfl⟩
theorem o_lstL {E : RE α} (l : List α) : ∀ x, eL E l x → Rf (dList x) (.ok l) (eL E) := by rintro _ ⟨ds, rfl, r⟩; exact ⟨_, rfl, ds, rfl, r⟩
theorem o_lstT {E : RE α} (l : List α) : ∀ x, eT E l x → Rf (dList x) (.ok l) (eL E) := by rintro _ ⟨ds, rfl, r⟩; exact ⟨_, rfl, ds, rfl, r⟩
theorem o_sum (l : List Int) : ∀ x, eL eI l x → Rf (dSum x) (.ok l.sum) eI := by rintro _ ⟨ds, rfl, r⟩; rw [A2.fn.mp r]; exact ⟨_, dSum_ints l, rfl⟩
open Classical in
noncomputable def sortKR (l : List (List Int)) : Res (List (List Int)) := if Fits l.length then .ok (sortK l) else .bad
theorem sort_K (l : List (List Int)) {x : D} (h : x.items = some (rowsD l)) : Rf (dSorted x) (sortKR l) (eL eR) := by
  unfold sortKR
  by_cases k : Fits l.length
  · rw [if_pos k]; exact ⟨_, sorted_rows k h, _, rfl, A2.fn.mpr rfl⟩
  · rw [if_neg k]; trivial
theorem o_sortLK (l : List (List Int)) : ∀ x, eL eR l x → Rf (dSorted x) (sortKR l) (eL eR) := by rintro _ ⟨ds, rfl, r⟩; exact sort_K l (by rw [A2.fn.mp r]; rfl)
theorem o_sortTK (l : List (List Int)) : ∀ x, eT eR l x → Rf (dSorted x) (sortKR l) (eL eR) := by rintro _ ⟨ds, rfl, r⟩; exact sort_K l (by rw [A2.fn.mp r]; rfl)
open Classical in
noncomputable def catR {α : Type} (a b : List α) : Res (List α) := if Fits (a.length + b.length) then .ok (a ++ b) else .bad
theorem rf_cat {E : RE α} {a b : List α} {ds es : List D} (h : A2 E a ds) (k : A2 E b es) {x : Res D} {C : List D → D} (hx : ds.length + es.length ≤ sizeLine → x = .ok (C (ds ++ es))) {E' : RE (List α)} (hc : ∀ l ds, A2 E l ds → E' l (C ds)) : Rf x (catR a b) E' := by
  unfold catR
  by_cases q : Fits (a.length + b.length)
  · rw [if_pos q]; exact ⟨_, hx (by rw [h.length, k.length]; exact q), hc _ _ (h.append k)⟩
  · rw [if_neg q]; trivial
theorem o_catT {E : RE α} (a b : List α) : ∀ x y, eT E a x → eT E b y → Rf (dAdd x y) (catR a b) (eT E) := by rintro _ _ ⟨ds, rfl, r⟩ ⟨es, rfl, s⟩; exact rf_cat (C := D.tup) r s (fun h => if_pos h) fun l ds h => ⟨ds, rfl, h⟩
theorem o_catR (a b : List Int) : ∀ x y, eR a x → eR b y → Rf (dAdd x y) (catR a b) eR := by rintro _ _ rfl rfl; exact rf_cat (E := eI) (C := D.tup) (A2.fn.mpr rfl) (A2.fn.mpr rfl) (fun h => if_pos h) fun l ds h => by rw [A2.fn.mp h]; rfl
section
variable {ρ : KEnv} {f g : DL.Env → Res D}
/-! slices -/
theorem cutL_A2 {E : RE α} {l : List α} {ds : List D} (h : A2 E l ds) (lo hi : Option Int) : A2 E (cutL l lo hi) (cutL ds lo hi) := by
  unfold cutL
  rw [h.length]
  exact (h.drop _).take _
def Eqv {α : Type} : α → α → Prop := fun a b => b = a
theorem vo_n : EvR ρ oNone (.ok none) Eqv := fun e l => ⟨none, rfl, rfl⟩
theorem vo_s {i : Int} (h : EvR ρ f (.ok i) eI) : EvR ρ (oSome f) (.ok (some i)) Eqv := fun e l => by
  obtain ⟨d, h1, h2⟩ := h e l
  exact ⟨some i, by rw [oSome_app, h1, show d = _ from h2]; rfl, rfl⟩
variable {fl fh : DL.Env → Res (Option Int)} {lo hi : Option Int}
theorem v_cutL {E : RE α} {r : Res (List α)} (h : EvR ρ f r (eL E)) (hl : EvR ρ fl (.ok lo) Eqv) (hh : EvR ρ fh (.ok hi) Eqv) : EvR ρ (eCut f fl fh) (r.bind fun l => .ok (cutL l lo hi)) (eL E) := fun e l => by
  rw [eCut_app]
  refine (h e l).bind fun xs d ⟨ds, h1, h2⟩ => ?_
  obtain ⟨_, a1, rfl⟩ := hl e l
  obtain ⟨_, b1, rfl⟩ := hh e l
  rw [a1, b1, h1]
  exact ⟨_, rfl, _, rfl, cutL_A2 h2 _ _⟩
theorem v_cutD {r : Res D} (h : EvR ρ f r eD) (hl : EvR ρ fl (.ok lo) Eqv) (hh : EvR ρ fh (.ok hi) Eqv) : EvR ρ (eCut f fl fh) (r.bind fun d => dCut lo hi d) eD := fun e l => by
  rw [eCut_app]
  refine (h e l).bind fun x d hd => ?_
  obtain ⟨_, a1, rfl⟩ := hl e l
  obtain ⟨_, b1, rfl⟩ := hh e l
  rw [a1, b1, show d = x from hd]
  exact o_raw1 (dCut _ _) x x rfl
/-! what is walked -/
theorem v_seqL {E : RE α} {r : Res (List α)} (h : EvR ρ f r (eL E)) : EvR ρ (iSeq f) r (A2 E) := fun e l => by
  have := h e l
  rw [iSeq_app]
  cases r with
  | ok a => obtain ⟨d, e1, ds, rfl, h1⟩ := this; rw [e1]; exact ⟨ds, rfl, h1⟩
  | exc c fs => rw [show f e = _ from this]; rfl
  | bad => trivial
theorem v_seqT {E : RE α} {r : Res (List α)} (h : EvR ρ f r (eT E)) : EvR ρ (iSeq f) r (A2 E) := fun e l => by
  have := h e l
  rw [iSeq_app]
  cases r with
  | ok a => obtain ⟨d, e1, ds, rfl, h1⟩ := this; rw [e1]; exact ⟨ds, rfl, h1⟩
  | exc c fs => rw [show f e = _ from this]; rfl
  | bad => trivial
theorem v_seqR {r : Res (List Int)} (h : EvR ρ f r eR) : EvR ρ (iSeq f) r (A2 eI) := v_seqT (v_imp h r_t)
def rangeI (lo hi : Int) : List Int := (List.range (hi - lo).toNat).map fun i => lo + (i : Nat)
open Classical in
noncomputable def rng1 (n : Int) : Res (List Int) := if Rg n then .ok (rangeI 0 n) else .bad
theorem rangeI_A2 (m n : Int) : A2 eI (rangeI m n) (rangeD m n) := A2.fn.mpr (by unfold rangeI rangeD; rw [List.map_map]; rfl)
theorem v_rng1 {r : Res Int} (h : EvR ρ f r eI) : EvR ρ (iRange1 f) (r.bind rng1) (A2 eI) := fun e l => by
  rw [iRange1_app]
  refine (h e l).bind fun n d hd => ?_
  rw [show d = _ from hd]
  unfold rng1
  by_cases k : Rg n
  · rw [if_pos k]; exact ⟨_, range1D_int n k, rangeI_A2 0 n⟩
  · rw [if_neg k]; trivial
theorem v_rng1p {n : Int} (h : EvR ρ f (.ok n) eI) : EvR ρ (iRange1 f) (rng1 n) (A2 eI) := v_rng1 h
/-- range(n) whose number is small enough: no questions asked -/
theorem rng1_ok {n : Int} (h : -1000000000 ≤ n) (k : n ≤ 1000000000) : rng1 n = .ok (rangeI 0 n) := if_pos (Rg.of h k)
end
/-! ### lists that are changed -/
open Classical in
noncomputable def appR {α : Type} (l : List α) (a : α) : Res (List α) := if l.length < sizeLine then .ok (l ++ [a]) else .bad
theorem appR_ok {l : List α} {a : α} (h : l.length ≤ 10000000) : appR l a = .ok (l ++ [a]) := if_pos (by rw [PySem.sizeLine_eq]; omega)
section
variable {ρ : KEnv}
theorem sMut_J {al : List Nat} {i : Nat} {gm : List D → List D → Option (List D)} {fs : DL.Env → Res (List D)} {E : RE α} {l : List α} {Q : β → List D → Prop} {r : Res β} {t : β → Res (List α)}
    (hf : (fzK al ρ)[i]? = some (some (ow (eL E) l))) (hr : EvR ρ fs r Q) (hg : ∀ ds b es l', A2 E l ds → Q b es → t b = .ok l' → ∃ ds', gm ds es = some ds' ∧ A2 E l' ds') (hn : ∀ b c fs, t b ≠ .exc c fs) : J ρ (sMut al i gm fs) (r.bind t) (PN fun l' => (fzK al ρ).set i (some (ow (eL E) l'))) := fun e le => by
  have lf := le.fz al
  obtain ⟨d, o, h1, ⟨ds, h2, h3⟩, h4⟩ := lf.get hf
  subst h2 h4
  have := hr e le
  have main : sMut al i gm fs e = (match fs e with | .ok es => (match gm ds es with | some ys => .nx ((fz al e).set i (some (.lst ys, true))) | none => .bad) | .exc c fs' => .ex c fs' (fz al e) | .bad => .bad) := by
    rw [sMut_app, ownL_app, h1]
    dsimp only
    rw [sE_app]
    cases fs e <;> rfl
  rw [main]
  cases r with
  | ok b =>
    obtain ⟨es, h5, h6⟩ := this
    rw [h5]
    show JM (t b) _ _
    cases q : t b with
    | ok l' =>
      obtain ⟨ds', h7, h8⟩ := hg ds b es l' h3 h6 q
      dsimp only
      rw [h7]
      exact ⟨_, rfl, lf.set i ⟨⟨ds', rfl, h8⟩, rfl⟩⟩
    | exc c fs' => exact absurd q (hn _ _ _)
    | bad => trivial
  | exc c fs' => rw [show fs e = _ from this]; exact ⟨_, rfl⟩
  | bad => trivial
theorem appR_nx (l : List α) (a : α) (c : String) (fs : List (D × D)) : appR l a ≠ .exc c fs := by unfold appR; split <;> simp
theorem d_app {al : List Nat} {i : Nat} {f : DL.Env → Res D} {E : RE α} {l : List α} {r : Res α} (hf : (fzK al ρ)[i]? = some (some (ow (eL E) l))) (h : EvR ρ f r E) : J ρ (sMut al i gAppend (aCons f aNil)) (r.bind fun a => appR l a) (PN fun l' => (fzK al ρ).set i (some (ow (eL E) l'))) :=
  sMut_J hf (vq_1 h) (fun ds b es l' h1 h2 h3 => by
    obtain ⟨d, rfl, h4⟩ := h2
    unfold appR at h3
    split at h3
    · rename_i hl
      cases h3
      exact ⟨ds ++ [d], by unfold gAppend; dsimp only; rw [if_pos (by rw [h1.length]; exact hl)], h1.append ⟨d, [], rfl, h4, rfl⟩⟩
    · cases h3) (fun b => appR_nx l b)
theorem d_appP {al : List Nat} {i : Nat} {f : DL.Env → Res D} {E : RE α} {l : List α} {a : α} (hf : (fzK al ρ)[i]? = some (some (ow (eL E) l))) (h : EvR ρ f (.ok a) E) : J ρ (sMut al i gAppend (aCons f aNil)) (appR l a) (PN fun l' => (fzK al ρ).set i (some (ow (eL E) l'))) := d_app hf h
end
/-! ### dicts -/
structure KeyF {α : Type} (t : Bool) (f : α → D) : Prop where
  inj : ∀ a b, f a = f b → a = b
  ok : ∀ a, D.keyOk t (f a) = true
theorem KeyF.int : KeyF false D.int := ⟨fun a b h => by injection h, fun a => rfl⟩
theorem KeyF.str : KeyF false D.str := ⟨fun a b h => by injection h, fun a => rfl⟩
theorem KeyF.row : KeyF true ans := ⟨fun a b h => ans_inj h, ans_key⟩
def eK {α : Type} (f : α → D) : RE α := fun a d => d = f a
def eM {α β : Type} (t : Bool) (f : α → D) (E : RE β) : RE (List (α × β)) := fun m d => ∃ kvs, d = .dct t kvs ∧ A2 (fun (p : α × β) (q : D × D) => q.1 = f p.1 ∧ E p.2 q.2) m kvs
section
variable [DecidableEq α] {t : Bool} {f : α → D} {E : RE β}
theorem find_A2 (K : KeyF t f) (k : α) : ∀ {m : List (α × β)} {kvs : List (D × D)}, A2 (fun (p : α × β) (q : D × D) => q.1 = f p.1 ∧ E p.2 q.2) m kvs → match getG m k with
    | some v => ∃ d, dFind kvs (f k) = some d ∧ E v d
    | none => dFind kvs (f k) = none
  | [], _, h => by rw [show _ = [] from h]; rfl
  | p :: m, _, ⟨q, r, rfl, ⟨h1, h2⟩, h3⟩ => by
    have ih := find_A2 K k h3
    unfold getG dFind at *
    rw [List.find?_cons, List.find?_cons]
    by_cases h : p.1 = k
    · have e : q.1 = f k := by rw [h1, h]
      simp only [h, e, decide_true, Option.map_some]
      exact ⟨_, rfl, h2⟩
    · have e : q.1 ≠ f k := fun z => h (K.inj _ _ (h1.symm.trans z))
      simp only [h, e, decide_false]
      exact ih
theorem set_A2 (K : KeyF t f) {m : List (α × β)} {kvs : List (D × D)} (h : A2 (fun (p : α × β) (q : D × D) => q.1 = f p.1 ∧ E p.2 q.2) m kvs) (k : α) {v : β} {d : D} (hv : E v d) :
    A2 (fun (p : α × β) (q : D × D) => q.1 = f p.1 ∧ E p.2 q.2) (putG m k v) (dSet kvs (f k) d) := by
  have any : ∀ {m : List (α × β)} {kvs : List (D × D)}, A2 (fun (p : α × β) (q : D × D) => q.1 = f p.1 ∧ E p.2 q.2) m kvs → (kvs.any fun p => @decide (p.1 = f k) (Classical.propDecidable _)) = m.any fun p => decide (p.1 = k) := by
    intro m
    induction m with
    | nil => intro kvs h; rw [show kvs = [] from h]; rfl
    | cons p m ih =>
      rintro _ ⟨q, r, rfl, ⟨h1, h2⟩, h3⟩
      rw [List.any_cons, List.any_cons, ih h3]
      congr 1
      rw [h1]
      by_cases h : p.1 = k
      · simp [h]
      · have : f p.1 ≠ f k := fun z => h (K.inj _ _ z)
        simp [h, this]
  have mp : ∀ {m : List (α × β)} {kvs : List (D × D)}, A2 (fun (p : α × β) (q : D × D) => q.1 = f p.1 ∧ E p.2 q.2) m kvs → A2 (fun (p : α × β) (q : D × D) => q.1 = f p.1 ∧ E p.2 q.2) (m.map fun p => if p.1 = k then (p.1, v) else p) (kvs.map fun p => @ite _ (p.1 = f k) (Classical.propDecidable _) (p.1, d) p) := by
    intro m
    induction m with
    | nil => intro kvs h; rw [show kvs = [] from h]; rfl
    | cons p m ih =>
      rintro _ ⟨q, r, rfl, ⟨h1, h2⟩, h3⟩
      refine ⟨_, _, rfl, ?_, ih h3⟩
      by_cases h : p.1 = k
      · have e : q.1 = f k := by rw [h1, h]
        dsimp only; rw [if_pos h, if_pos e]; exact ⟨h1, hv⟩
      · have e : q.1 ≠ f k := fun z => h (K.inj _ _ (h1.symm.trans z))
        dsimp only; rw [if_neg h, if_neg e]; exact ⟨h1, h2⟩
  unfold putG dSet
  rw [any h]
  split
  · exact mp h
  · exact h.append ⟨_, [], rfl, ⟨rfl, hv⟩, rfl⟩
variable {ρ : KEnv}
theorem o_at (K : KeyF t f) (m : List (α × β)) (k : α) : ∀ x y, eM t f E m x → eK f k y → Rf (dAt x y) (match getG m k with | some v => .ok v | none => .bad) E := by
  rintro _ _ ⟨kvs, rfl, h⟩ rfl
  have := find_A2 K k h
  cases q : getG m k with
  | none => trivial
  | some v =>
    rw [q] at this
    obtain ⟨d, h1, h2⟩ := this
    exact ⟨d, by simp [dAt, K.ok k, h1], h2⟩
theorem o_in (K : KeyF t f) (no : Bool) (m : List (α × β)) (k : α) : ∀ x y, eK f k x → eM t f E m y → Rf (dIn no x y) (.ok ((getG m k).isSome != no)) eB := by
  rintro _ _ rfl ⟨kvs, rfl, h⟩
  have := find_A2 K k h
  refine ⟨_, if_pos (K.ok k), ?_⟩
  show D.bl _ = D.bl _
  congr 1
  cases q : getG m k with
  | none => rw [q] at this; rw [this]; rfl
  | some v => rw [q] at this; obtain ⟨d, h1, h2⟩ := this; rw [h1]; rfl
theorem v_get2 (K : KeyF t f) {fa fb fc : DL.Env → Res D} {m : List (α × β)} {rk : Res α} {rd : Res β} (ha : EvR ρ fa (.ok m) (eM t f E)) (hb : EvR ρ fb rk (eK f)) (hc : EvR ρ fc rd E) : EvR ρ (eGet2 fa fb fc) (rk.bind fun k => rd.bind fun v => .ok ((getG m k).getD v)) E := fun e l => by
  obtain ⟨_, a1, kvs, rfl, h⟩ := ha e l
  rw [eGet2_app, a1]
  refine (hb e l).bind fun k d hk => (hc e l).bind fun v d' hv => ?_
  rw [show d = _ from hk]
  have := find_A2 K k h
  refine ⟨(dFind kvs (f k)).getD d', if_pos (K.ok k), ?_⟩
  cases q : getG m k with
  | none => rw [q] at this; rw [this]; exact hv
  | some w => rw [q] at this; obtain ⟨z, h1, h2⟩ := this; rw [h1]; exact h2
theorem v_get2p (K : KeyF t f) {fa fb fc : DL.Env → Res D} {m : List (α × β)} {k : α} {v : β} (ha : EvR ρ fa (.ok m) (eM t f E)) (hb : EvR ρ fb (.ok k) (eK f)) (hc : EvR ρ fc (.ok v) E) : EvR ρ (eGet2 fa fb fc) (.ok ((getG m k).getD v)) E := v_get2 K ha hb hc
open Classical in
noncomputable def putDR (m : List (α × β)) (k : α) (v : β) : Res (List (α × β)) := if m.length < sizeLine then .ok (putG m k v) else .bad
omit [DecidableEq α] in
theorem v_dnew : EvR ρ (eDNew t) (.ok []) (eM t f E) := fun e l => ⟨_, rfl, [], rfl, rfl⟩
theorem d_putD (K : KeyF t f) {al : List Nat} {i : Nat} {fk fv : DL.Env → Res D} {m : List (α × β)} {rk : Res α} {rv : Res β} (hf : (fzK al ρ)[i]? = some (some (ow (eM t f E) m))) (hk : EvR ρ fk rk (eK f)) (hv : EvR ρ fv rv E) :
    J ρ (sPutD al i fk fv) (rv.bind fun v => rk.bind fun k => putDR m k v) (PN fun m' => (fzK al ρ).set i (some (ow (eM t f E) m'))) := fun e le => by
  have lf := le.fz al
  obtain ⟨d, o, h1, ⟨kvs, h2, h3⟩, h4⟩ := lf.get hf
  subst h2 h4
  have hk' := hk e le
  have hv' := hv e le
  rw [sPutD_app, ownD_app, h1]
  dsimp only
  rw [sE_app]
  cases rv with
  | ok v =>
    obtain ⟨y, b1, b2⟩ := hv'
    rw [b1]
    cases rk with
    | ok k =>
      obtain ⟨x, a1, rfl⟩ := hk'
      rw [a1]
      show JM (putDR m k v) _ _
      unfold putDR
      by_cases q : m.length < sizeLine
      · rw [if_pos q]
        exact ⟨_, by simp only [Res.bind_ok]; rw [if_pos ⟨K.ok k, by rw [h3.length]; exact q⟩], lf.set i ⟨⟨_, rfl, set_A2 K h3 k b2⟩, rfl⟩⟩
      · rw [if_neg q]; trivial
    | exc c fs => rw [show fk e = _ from hk']; exact ⟨_, rfl⟩
    | bad => trivial
  | exc c fs => rw [show fv e = _ from hv']; exact ⟨_, rfl⟩
  | bad => trivial
theorem d_putDP (K : KeyF t f) {al : List Nat} {i : Nat} {fk fv : DL.Env → Res D} {m : List (α × β)} {k : α} {v : β} (hf : (fzK al ρ)[i]? = some (some (ow (eM t f E) m))) (hk : EvR ρ fk (.ok k) (eK f)) (hv : EvR ρ fv (.ok v) E) :
    J ρ (sPutD al i fk fv) (putDR m k v) (PN fun m' => (fzK al ρ).set i (some (ow (eM t f E) m'))) := d_putD K hf hk hv
omit [DecidableEq α] in
theorem keys_A2 : ∀ {m : List (α × β)} {kvs : List (D × D)}, A2 (fun (p : α × β) (q : D × D) => q.1 = f p.1 ∧ E p.2 q.2) m kvs → kvs.map (·.1) = (m.map (·.1)).map f
  | [], _, h => by rw [show _ = [] from h]; rfl
  | p :: m, _, ⟨q, r, rfl, ⟨h1, _⟩, h3⟩ => by rw [List.map_cons, List.map_cons, List.map_cons, keys_A2 h3, h1]
end
end
end DL

/-! Typed readings: more operations, casts. -/
namespace DL
open PySem PySem.Spec PyProof.Rows L2
open PySem.Builtin.Int (intBits)

theorem Res.assoc {α β γ : Type} (r : Res α) (f : α → Res β) (g : β → Res γ) : (r.bind f).bind g = r.bind fun a => (f a).bind g := by cases r <;> rfl
@[simp] theorem pow_10_30 : dPow (.int 10) (.int 30) = .ok (.int (10 ^ 30)) := dPow_of (by decide +kernel)
@[simp] theorem pow_10_12 : dPow (.int 10) (.int 12) = .ok (.int (10 ^ 12)) := dPow_of (by decide +kernel)
@[simp] theorem pow_10_6 : dPow (.int 10) (.int 6) = .ok (.int (10 ^ 6)) := dPow_of (by decide +kernel)
section
variable {α β γ : Type} {ρ : KEnv}
theorem v_eqr {f : DL.Env → Res β} {r r' : Res α} {E : α → β → Prop} (h : EvR ρ f r E) (e : r = r') : EvR ρ f r' E := e ▸ h
theorem v_opl {fa fb : DL.Env → Res D} {g : D → D → Res D} {Ea : RE α} {Eb : RE β} {Ec : RE γ} {ra : Res α} {b : β} {gt : α → Res γ} (hg : ∀ a x y, Ea a x → Eb b y → Rf (g x y) (gt a) Ec) (ha : EvR ρ fa ra Ea) (hb : EvR ρ fb (.ok b) Eb) :
    EvR ρ (eOp g fa fb) (ra.bind gt) Ec := fun e l => (ha e l).bind fun a x h1 => by
  obtain ⟨y, h2, h3⟩ := hb e l
  rw [h2]
  exact hg a x y h1 h3
theorem v_1i {fa : DL.Env → Res D} {g : D → Res D} {Ea Ec : RE α} {ra : Res α} (hg : ∀ a x, Ea a x → Rf (g x) (.ok a) Ec) (ha : EvR ρ fa ra Ea) : EvR ρ (e1 g fa) ra Ec := fun e l => by
  have := (ha e l).bind hg
  cases ra <;> exact this
theorem b_orM {fa fb : DL.Env → Res Bool} {P : Prop} [Decidable P] {rb : Res Bool} (ha : EvR ρ fa (.ok (decide P)) Tr) (hb : EvR ρ fb rb Tr) : EvR ρ (bOr fa fb) (if P then .ok true else rb) Tr := fun e l => by
  have := b_or ha hb e l
  rw [show (Res.ok (decide P)).bind (fun b => if b = true then .ok true else rb) = (if P then .ok true else rb) by by_cases h : P <;> simp [h]] at this
  exact this
/-! shares written down -/
/-! readings by a function -/
def Fun {α : Type} (E : RE α) (f : α → D) : Prop := ∀ a d, E a d ↔ eD (f a) d
def FunQ {α : Type} (Q : α → List D → Prop) (f : α → List D) : Prop := ∀ a d, Q a d ↔ d = f a
def fLst {α : Type} (f : α → D) : List α → D := fun l => .lst (l.map f)
def fTup {α : Type} (f : α → D) : List α → D := fun l => .tup (l.map f)
def fPr {α : Type} (f : α → List D) : α → D := fun a => .tup (f a)
def fOne {α : Type} (f : α → D) : α → List D := fun a => [f a]
def fCons {α β : Type} (f : α → D) (g : β → List D) : α × β → List D := fun p => f p.1 :: g p.2
theorem Fun.int : Fun eI D.int := fun a d => Iff.rfl
theorem Fun.bl : Fun eB D.bl := fun a d => Iff.rfl
theorem Fun.str : Fun eS D.str := fun a d => Iff.rfl
theorem Fun.row : Fun eR ans := fun a d => Iff.rfl
theorem Fun.raw : Fun eD (fun d => d) := fun a d => Iff.rfl
theorem Fun.non : Fun eN (fun _ => D.non) := fun a d => Iff.rfl
theorem a2_fun {E : RE α} {f : α → D} (h : Fun E f) (l : List α) (ds : List D) : A2 E l ds ↔ ds = l.map f := by
  rw [← A2.fn]
  exact ⟨A2.imp fun a d => (h a d).mp, A2.imp fun a d => (h a d).mpr⟩
theorem Fun.lst {E : RE α} {f : α → D} (h : Fun E f) : Fun (eL E) (fLst f) := fun a d =>
  ⟨fun ⟨ds, e, r⟩ => by rw [e, (a2_fun h a ds).mp r]; rfl, fun e => ⟨_, e, (a2_fun h a _).mpr rfl⟩⟩
theorem Fun.tup {E : RE α} {f : α → D} (h : Fun E f) : Fun (eT E) (fTup f) := fun a d =>
  ⟨fun ⟨ds, e, r⟩ => by rw [e, (a2_fun h a ds).mp r]; rfl, fun e => ⟨_, e, (a2_fun h a _).mpr rfl⟩⟩
theorem FunQ.one {E : RE α} {f : α → D} (h : Fun E f) : FunQ (q1 E) (fOne f) := fun a d =>
  ⟨fun ⟨x, e, r⟩ => by rw [e, show x = _ from (h a x).mp r]; rfl, fun e => ⟨_, e, (h a _).mpr rfl⟩⟩
theorem FunQ.c {E : RE α} {f : α → D} {Q : β → List D → Prop} {g : β → List D} (h : Fun E f) (k : FunQ Q g) : FunQ (qC E Q) (fCons f g) := fun a d =>
  ⟨fun ⟨x, y, e, r, s⟩ => by rw [e, show x = _ from (h _ x).mp r, (k _ y).mp s]; rfl, fun e => ⟨_, _, e, (h _ _).mpr rfl, (k _ _).mpr rfl⟩⟩
theorem Fun.pr {Q : α → List D → Prop} {f : α → List D} (h : FunQ Q f) : Fun (eQ Q) (fPr f) := fun a d =>
  ⟨fun ⟨ds, e, r⟩ => by rw [e, (h a ds).mp r]; rfl, fun e => ⟨_, e, (h a _).mpr rfl⟩⟩
/-! something or nothing -/
def optR {α : Type} : Option α → Res α
  | some a => .ok a
  | none => .bad
@[simp] theorem optR_some (a : α) : optR (some a) = .ok a := rfl
/-! texts -/
/-! keys -/
theorem v_keyI {f : DL.Env → Res D} {r : Res Int} (h : EvR ρ f r eI) : EvR ρ f r (eK D.int) := v_imp h fun _ _ h => h
theorem v_keyS {f : DL.Env → Res D} {r : Res Str} (h : EvR ρ f r eS) : EvR ρ f r (eK D.str) := v_imp h fun _ _ h => h
def atG [DecidableEq α] (m : List (α × β)) (k : α) : Res β := match getG m k with
  | some v => .ok v
  | none => .bad
theorem o_inA [DecidableEq α] {t : Bool} {f : α → D} {E : RE β} (K : KeyF t f) (no : Bool) (m : List (α × β)) (k : α) : ∀ x y, eK f k x → eM t f E m y → Rf (dInA no x y) (.ok ((getG m k).isSome != no)) eB := by
  rintro x _ hk ⟨kvs, rfl, h⟩
  exact o_in K no m k x _ hk ⟨kvs, rfl, h⟩
theorem o_inLn (k : List Int) (l : List (List Int)) : ∀ x y, eR k x → eL eR l y → Rf (dInA true x y) (.ok (decide (¬ k ∈ l))) eB := by
  rintro _ _ rfl ⟨ds, rfl, r⟩
  rw [A2.fn.mp r]
  exact ⟨_, dInA_rows true l k, by simp [eB]⟩
/-! tuples of raw data taken apart -/
def asTup2 : D → Res (D × D)
  | .tup [a, b] => .ok (a, b)
  | _ => .bad
def asTup3 : D → Res (D × D × D)
  | .tup [a, b, c] => .ok (a, b, c)
  | _ => .bad
def asTup4 : D → Res (D × D × D × D)
  | .tup [a, b, c, d] => .ok (a, b, c, d)
  | _ => .bad
theorem asTup2_ok {d : D} {p : D × D} (h : asTup2 d = .ok p) : d = .tup [p.1, p.2] := by
  unfold asTup2 at h; split at h <;> cases h; rfl
theorem asTup3_ok {d : D} {p : D × D × D} (h : asTup3 d = .ok p) : d = .tup [p.1, p.2.1, p.2.2] := by
  unfold asTup3 at h; split at h <;> cases h; rfl
theorem asTup4_ok {d : D} {p : D × D × D × D} (h : asTup4 d = .ok p) : d = .tup [p.1, p.2.1, p.2.2.1, p.2.2.2] := by
  unfold asTup4 at h; split at h <;> cases h; rfl
theorem eq_2 {d : D} {p : D × D} (h : asTup2 d = .ok p) : eQ (qC eD (q1 eD)) p d := ⟨_, asTup2_ok h, _, _, rfl, rfl, _, rfl, rfl⟩
theorem eq_3 {d : D} {p : D × D × D} (h : asTup3 d = .ok p) : eQ (qC eD (qC eD (q1 eD))) p d := ⟨_, asTup3_ok h, _, _, rfl, rfl, _, _, rfl, rfl, _, rfl, rfl⟩
theorem eq_4 {d : D} {p : D × D × D × D} (h : asTup4 d = .ok p) : eQ (qC eD (qC eD (qC eD (q1 eD)))) p d := ⟨_, asTup4_ok h, _, _, rfl, rfl, _, _, rfl, rfl, _, _, rfl, rfl, _, rfl, rfl⟩
theorem mapR_nx {f : α → Res β} (hf : ∀ a c fs, f a ≠ .exc c fs) : ∀ (l : List α) (c : String) (fs : List (D × D)), mapR l f ≠ .exc c fs
  | [], c, fs, h => by cases h
  | a :: l, c, fs, h => by
    unfold mapR at h
    cases q : f a with
    | ok b =>
      rw [q] at h
      cases q2 : mapR l f with
      | ok bs => rw [q2] at h; cases h
      | exc c' fs' => exact mapR_nx hf l _ _ q2
      | bad => rw [q2] at h; cases h
    | exc c' fs' => exact hf _ _ _ q
    | bad => rw [q] at h; cases h
theorem mapR_A2 {f : D → Res β} {E : RE β} (hf : ∀ d b, f d = .ok b → E b d) : ∀ {l ds : List D} {bs : List β}, A2 eD l ds → mapR l f = .ok bs → A2 E bs ds
  | [], ds, bs, h, q => by rw [show ds = [] from h]; cases q; rfl
  | a :: l, _, bs, ⟨d, r, rfl, h1, h2⟩, q => by
    unfold mapR at q
    cases q1 : f a with
    | ok b =>
      rw [q1] at q
      cases q2 : mapR l f with
      | ok bs' => rw [q2] at q; cases q; exact ⟨d, r, rfl, by rw [show d = a from h1]; exact hf _ _ q1, mapR_A2 hf h2 q2⟩
      | exc c' fs' => rw [q2] at q; cases q
      | bad => rw [q2] at q; cases q
    | exc c' fs' => rw [q1] at q; cases q
    | bad => rw [q1] at q; cases q
def asTups2 (l : List D) : Res (List (D × D)) := mapR l asTup2
theorem v_tups2 {f : DL.Env → Res (List D)} {r : Res (List D)} (h : EvR ρ f r (A2 eD)) : EvR ρ f (r.bind asTups2) (A2 (eQ (qC eD (q1 eD)))) := v_as h (fun a d c h1 h2 => mapR_A2 (fun _ _ => eq_2) h1 h2) fun a => mapR_nx (fun a c fs h => by unfold asTup2 at h; split at h <;> cases h) a
/-! kinds of things -/
section
variable {E : RE α} {Q : α → List D → Prop}
theorem isInt_Int (a : Int) : ∀ x, eI a x → Rf (isInt x) (.ok true) eB := by rintro _ rfl; exact ⟨_, rfl, rfl⟩
theorem isBool_Int (a : Int) : ∀ x, eI a x → Rf (isBool x) (.ok false) eB := by rintro _ rfl; exact ⟨_, rfl, rfl⟩
theorem isTup_Row (a : List Int) : ∀ x, eR a x → Rf (isTup x) (.ok true) eB := by rintro _ rfl; exact ⟨_, rfl, rfl⟩
theorem isTup_Tup (a : List α) : ∀ x, eT E a x → Rf (isTup x) (.ok true) eB := by rintro _ ⟨_, rfl, _⟩; exact ⟨_, rfl, rfl⟩
end
/-! dicts: displays, copies, equality -/
theorem v_disp {l : List (Key × (DL.Env → Res D))} {ks : List Str} {r : Res (List α)} {E : RE α} (hk : l.map (·.1) = ks.map Sum.inr) (h : EvR ρ (eVals l) r (A2 E)) : EvR ρ (eDisp l) (r.bind fun vs => .ok (ks.zip vs)) (eM false D.str E) := fun e le => by
  unfold eDisp
  refine (h e le).bind fun vs ds hd => ⟨_, rfl, _, rfl, ?_⟩
  rw [hk]
  have gen : ∀ (ks : List Str) (vs : List α) (ds : List D), A2 E vs ds → A2 (fun (p : Str × α) (q : D × D) => q.1 = D.str p.1 ∧ E p.2 q.2) (ks.zip vs) (kzipD (ks.map Sum.inr) ds) := by
    intro ks
    induction ks with
    | nil => intro vs ds h; exact rfl
    | cons k ks ih =>
      intro vs ds h
      cases vs with
      | nil => rw [show ds = [] from h]; exact rfl
      | cons v vs => obtain ⟨d, r, rfl, h1, h2⟩ := h; exact ⟨_, _, rfl, ⟨rfl, h1⟩, ih vs r h2⟩
  exact gen ks vs ds hd
theorem o_dict {f : α → D} {E : RE β} (m : List (α × β)) : ∀ x, eM false f E m x → Rf (dDict x) (.ok m) (eM false f E) := by rintro _ ⟨kvs, rfl, h⟩; exact ⟨_, rfl, _, rfl, h⟩
theorem a2_mem {E : α → β → Prop} : ∀ {l : List α} {r : List β}, A2 E l r → ∀ d ∈ r, ∃ a ∈ l, E a d
  | [], _, h, d, hd => by rw [show _ = [] from h] at hd; cases hd
  | a :: l, _, ⟨d', r, rfl, h1, h2⟩, d, hd => by
    rcases List.mem_cons.mp hd with rfl | hd
    · exact ⟨a, List.mem_cons_self, h1⟩
    · obtain ⟨b, hb, h3⟩ := a2_mem h2 d hd
      exact ⟨b, List.mem_cons_of_mem _ hb, h3⟩
/-! slices with a step -/
end
end DL

/-! What typed reckonings come to: they end well, and with what. -/
namespace DL
open PySem PySem.Spec PyProof.Rows L2
open PySem.Builtin.Int (intBits)
/-- it ends well, with what P says -/
def Ok {α : Type} (r : Res α) (P : α → Prop) : Prop := ∃ a, r = .ok a ∧ P a
section
variable {α β S R : Type}
theorem Ok.ok {a : α} {P : α → Prop} (h : P a) : Ok (.ok a) P := ⟨a, rfl, h⟩
theorem Ok.of {r : Res α} {a : α} {P : α → Prop} (e : r = .ok a) (h : P a) : Ok r P := ⟨a, e, h⟩
theorem Ok.bind {r : Res α} {f : α → Res β} {P : α → Prop} {Q : β → Prop} (h : Ok r P) (k : ∀ a, P a → Ok (f a) Q) : Ok (r.bind f) Q := by
  obtain ⟨a, rfl, h⟩ := h
  exact k a h
theorem Ok.imp {r : Res α} {P Q : α → Prop} (h : Ok r P) (k : ∀ a, P a → Q a) : Ok r Q := by
  obtain ⟨a, e, h⟩ := h
  exact ⟨a, e, k a h⟩
theorem Ok.and {r : Res α} {P Q : α → Prop} (h : Ok r P) (k : Ok r Q) : Ok r fun a => P a ∧ Q a := by
  obtain ⟨a, e, h⟩ := h
  obtain ⟨b, e', k⟩ := k
  rw [e] at e'; cases e'
  exact ⟨a, e, h, k⟩
theorem Ok.ite {c : Prop} [Decidable c] {a b : Res α} {P : α → Prop} (h : c → Ok a P) (k : ¬ c → Ok b P) : Ok (if c then a else b) P := by
  by_cases q : c
  · rw [if_pos q]; exact h q
  · rw [if_neg q]; exact k q
theorem Ok.eq {r : Res α} {a : α} (h : Ok r fun x => x = a) : r = .ok a := by obtain ⟨b, e, rfl⟩ := h; exact e
theorem Ok.get {r : Res α} {P : α → Prop} (h : Ok r P) : ∃ a, r = .ok a ∧ P a := h
/-! numbers -/
theorem sm64 {i : Int} (h : -1000000000000000000 ≤ i) (k : i ≤ 1000000000000000000) : Sm 64 i := by
  have e : (2 : Nat) ^ 64 = 18446744073709551616 := by decide
  show i.natAbs < 2 ^ 64
  omega
theorem mulR_s {i j : Int} (h : -1000000000000000000 ≤ i) (k : i ≤ 1000000000000000000) (h' : -1000000000000000000 ≤ j) (k' : j ≤ 1000000000000000000) : mulR i j = .ok (i * j) := mulR_ok (sm64 h k) (sm64 h' k') (by decide)
theorem mulR_l {n : Nat} {i j : Int} (h : Sm n i) (hn : n ≤ 100000000) (h' : -1000000000000000000 ≤ j) (k' : j ≤ 1000000000000000000) : mulR i j = .ok (i * j) := mulR_ok h (sm64 h' k') (by unfold big; omega)
theorem Sm.sum : ∀ {l : List Int} {n : Nat}, (∀ z ∈ l, Sm n z) → l.length ≤ 64 → Sm (n + 6) l.sum := by
  have gen : ∀ (l : List Int) (n : Nat), (∀ z ∈ l, Sm n z) → l.sum.natAbs ≤ l.length * 2 ^ n := by
    intro l n
    induction l with
    | nil => intro _; exact Nat.zero_le _
    | cons z l ih =>
      intro h
      have a := ih fun y hy => h y (List.mem_cons_of_mem _ hy)
      have b : z.natAbs < 2 ^ n := h z List.mem_cons_self
      rw [List.sum_cons, List.length_cons, Nat.succ_mul]
      omega
  intro l n h hl
  by_cases hz : l = []
  · subst hz; show (0 : Int).natAbs < _; exact Nat.two_pow_pos _
  have a := gen l n h
  by_cases h63 : l.length ≤ 63
  · show l.sum.natAbs < 2 ^ (n + 6)
    rw [Nat.pow_add]
    have : l.length * 2 ^ n ≤ 63 * 2 ^ n := Nat.mul_le_mul_right _ h63
    have := Nat.two_pow_pos n
    omega
  · show l.sum.natAbs < 2 ^ (n + 6)
    have strict : ∀ (l : List Int), l ≠ [] → (∀ z ∈ l, Sm n z) → l.sum.natAbs < l.length * 2 ^ n := by
      intro l
      induction l with
      | nil => intro h; exact absurd rfl h
      | cons z l ih =>
        intro _ h
        have b : z.natAbs < 2 ^ n := h z List.mem_cons_self
        have a := gen l n fun y hy => h y (List.mem_cons_of_mem _ hy)
        rw [List.sum_cons, List.length_cons, Nat.succ_mul]
        omega
    have := strict l hz h
    rw [Nat.pow_add]
    have : l.length * 2 ^ n ≤ 64 * 2 ^ n := Nat.mul_le_mul_right _ hl
    omega
theorem sm_bits {z : Int} {n : Nat} (h : intBits z ≤ n) : Sm n z := Sm.bits.mpr h
/-! lists -/
theorem fits_of {n : Nat} (h : n ≤ 10000000) : Fits n := by unfold Fits; rw [PySem.sizeLine_eq]; omega
theorem rangeI_len (m n : Int) : (rangeI m n).length = (n - m).toNat := by unfold rangeI; simp
theorem rangeI_mem {m n i : Int} : i ∈ rangeI m n ↔ m ≤ i ∧ i < n := by
  unfold rangeI
  simp only [List.mem_map, List.mem_range]
  constructor
  · rintro ⟨k, h1, h2⟩; omega
  · intro h; exact ⟨(i - m).toNat, by omega, by omega⟩
/-- each item by itself -/
theorem Ok.mapR {f : α → Res β} {P : α → β → Prop} : ∀ {l : List α}, (∀ a ∈ l, Ok (f a) (P a)) → Ok (mapR l f) fun bs => A2 P l bs
  | [], _ => ⟨[], rfl, rfl⟩
  | a :: l, h => by
    obtain ⟨b, e, hb⟩ := h a List.mem_cons_self
    obtain ⟨bs, e', hbs⟩ := Ok.mapR (l := l) fun x hx => h x (List.mem_cons_of_mem _ hx)
    exact ⟨b :: bs, by unfold DL.mapR; rw [e, e']; rfl, b, bs, rfl, hb, hbs⟩
theorem Ok.compR {f : α → Res β} {P : α → β → Prop} {Q : List β → Prop} {l : List α} (hl : l.length ≤ 10000000) (h : ∀ a ∈ l, Ok (f a) (P a)) (q : ∀ bs, A2 P l bs → Q bs) : Ok (compR l f) Q := by
  obtain ⟨bs, e, hb⟩ := Ok.mapR h
  refine ⟨bs, ?_, q bs hb⟩
  unfold DL.compR
  rw [if_pos (fits_of hl), e]
  rfl
/-- a loop with an invariant over the items done -/
theorem Ok.forR {f : α → S → Res S} {l : List α} {s : S} (I : List α → S → Prop) (h0 : I [] s) (h : ∀ d a r s, l = d ++ a :: r → I d s → Ok (f a s) (I (d ++ [a]))) : Ok (forR l s f) (I l) := by
  have gen : ∀ (r d : List α) (s : S), l = d ++ r → I d s → Ok (DL.forR r s f) (I l) := by
    intro r
    induction r with
    | nil => intro d s e hI; rw [e, List.append_nil]; exact ⟨s, rfl, hI⟩
    | cons a r ih =>
      intro d s e hI
      unfold DL.forR
      exact (h d a r s e hI).bind fun s' hs' => ih (d ++ [a]) s' (by rw [e, List.append_assoc]; rfl) hs'
  exact gen l [] s rfl h0
/-- a loop that appends one thing a turn -/
theorem Ok.forA {f : α → List β → Res (List β)} {P : α → β → Prop} {l : List α} {s : List β} (hl : s.length + l.length ≤ 10000000) (h : ∀ a ∈ l, ∀ s' : List β, s'.length ≤ 10000000 → Ok (f a s') fun s'' => ∃ b, P a b ∧ s'' = s' ++ [b]) : Ok (DL.forR l s f) fun s' => ∃ bs, A2 P l bs ∧ s' = s ++ bs := by
  refine Ok.imp (Ok.forR (fun d s' => ∃ bs, A2 P d bs ∧ s' = s ++ bs) ⟨[], rfl, by simp⟩ ?_) fun _ h => h
  rintro d a r s' e ⟨bs, h1, rfl⟩
  have len : (s ++ bs).length ≤ 10000000 := by rw [List.length_append, h1.length]; have := congrArg List.length e; simp at this; omega
  refine (h a (by rw [e]; simp) _ len).imp ?_
  rintro _ ⟨b, hb, rfl⟩
  exact ⟨bs ++ [b], h1.append ⟨b, [], rfl, hb, rfl⟩, by rw [List.append_assoc]⟩
theorem forX_unit {f : α → Unit → Res (Oc Unit R)} {l : List α} (h : ∀ a ∈ l, f a () = .ok (.nx ())) : forX l () f = .ok (.nx ()) := by
  induction l with
  | nil => rfl
  | cons a l ih => unfold DL.forX; rw [h a List.mem_cons_self]; exact ih fun x hx => h x (List.mem_cons_of_mem _ hx)
@[simp] theorem thenX_nx {T : Type} (s : S) (m : R → T) (k : S → Res T) : thenX (.ok (.nx s)) m k = k s := Eq.trans rfl rfl
@[simp] theorem thenX_rt {T : Type} (v : R) (m : R → T) (k : S → Res T) : thenX (.ok (.rt v) : Res (Oc S R)) m k = .ok (m v) := Eq.trans rfl rfl
theorem sortKR_ok {l : List (List Int)} (h : l.length ≤ 10000000) : sortKR l = .ok (sortK l) := if_pos (fits_of h)
/-! while -/
end
end DL
namespace DL
theorem a2_mem' {α β : Type} {E : α → β → Prop} : ∀ {l : List α} {r : List β}, A2 E l r → ∀ a ∈ l, ∃ d, d ∈ r ∧ E a d
  | a :: l, _, ⟨d', r, rfl, h1, h2⟩, b, hb => by
    rcases List.mem_cons.mp hb with rfl | hb
    · exact ⟨d', List.mem_cons_self, h1⟩
    · obtain ⟨d, hd, h3⟩ := a2_mem' h2 b hb
      exact ⟨d, List.mem_cons_of_mem _ hd, h3⟩
theorem a2_det {α β : Type} {E : α → β → Prop} (f : ∀ a x y, E a x → E a y → x = y) : ∀ {l : List α} {r s : List β}, A2 E l r → A2 E l s → r = s
  | [], _, _, h, k => by rw [show _ = [] from h, show _ = [] from k]
  | a :: l, _, _, ⟨d, r, rfl, h1, h2⟩, ⟨d', r', rfl, k1, k2⟩ => by rw [f a d d' h1 k1, a2_det f h2 k2]
end DL
namespace DL
end DL

/-! Typed readings: sets of lists, max with a default. -/
namespace DL
open PySem PySem.Spec PyProof.Rows L2
section
variable {α : Type}
/-! slices whose bounds may fail -/
end
end DL

/-! readings: a tuple times a number; more ways -/
namespace DL
open PySem PySem.Spec PyProof.Rows L2
section
variable {α : Type}
end
end DL

/-! readings: a list handed on and given back -/
namespace DL
open PySem PySem.Spec PyProof.Rows L2
section
variable {α β R S T : Type} {ρ : KEnv} {c : DL.Env → Out}
end
end DL
namespace DL
open PySem PySem.Spec PyProof.Rows L2
section
end
end DL

/-! readings: values of dicts -/
namespace DL
open PySem PySem.Spec PyProof.Rows L2
section
end
end DL

/-! readings: lists of ranges, sorted texts, a tuple's index -/
namespace DL
open PySem PySem.Spec PyProof.Rows L2
section
variable {α β : Type} {ρ : KEnv} {f g : DL.Env → Res D}
end
end DL

/-! readings: dicts that are walked -/
namespace DL
open PySem PySem.Spec PyProof.Rows L2
section
variable {α β : Type} {ρ : KEnv} {g : DL.Env → Res D} {b : Bool} {f : α → D} {Ek : RE α} {E : RE β} {r : Res (List (α × β))}
theorem a2_items (hf : ∀ a, Ek a (f a)) : ∀ {m : List (α × β)} {kvs : List (D × D)}, A2 (fun (p : α × β) (q : D × D) => q.1 = f p.1 ∧ E p.2 q.2) m kvs → A2 (eQ (qC Ek (q1 E))) m (kvs.map fun p => D.tup [p.1, p.2])
  | [], _, h => by rw [show _ = [] from h]; rfl
  | p :: m, _, ⟨q, r, rfl, ⟨h1, h2⟩, h3⟩ => ⟨_, _, rfl, ⟨_, rfl, q.1, _, rfl, by rw [h1]; exact hf _, q.2, rfl, h2⟩, a2_items hf h3⟩
theorem v_itemsM (hf : ∀ a, Ek a (f a)) (h : EvR ρ g r (eM b f E)) : EvR ρ (iItemsD g) r (A2 (eQ (qC Ek (q1 E)))) := fun e l => by
  have := h e l
  unfold iItemsD
  cases r with
  | ok m => obtain ⟨d, e1, kvs, rfl, h1⟩ := this; rw [e1]; exact ⟨_, rfl, a2_items hf h1⟩
  | exc c fs => rw [show g e = _ from this]; rfl
  | bad => trivial
end
end DL

/-! shares that may be a module's constants -/
namespace DL
open PySem PySem.Spec PyProof.Rows L2
end DL

/-! a module's constant dict with text keys and whole numbers: x in T, T[x] -/
namespace DL
open PySem PySem.Spec PyProof.Rows L2
structure DctOk (K : PySem.W.Frag) (w : World) (mg : Str → Option Value) (x : String) (tab : List (Str × Int)) : Prop where
  ok : ∃ (d : Addr) (es : Array DictEntry) (n : Nat), mg (Str.ofString x) = some (.ref d) ∧ KDict K w d es n ∧ ∀ z, match getG tab z with
    | some i => ∃ t, PySem.W.nsIn K d z = some (some (.int i t))
    | none => PySem.W.nsIn K d z = some none
theorem keyOf_of {P : Params} : ∀ {l : List DictEntry} {ks : List Str}, l.map He.keyOf = He.keysIn P ks → ∀ e ∈ l, ∃ k ∈ ks, ∃ t, e.key = .str k t
  | [], _, _, e, he => by cases he
  | e :: r, [], h, _, _ => by cases h
  | e :: r, k :: ks, h, e', he => by
    have h1 : He.keyOf e :: r.map He.keyOf = some (k, PyData.keyHash P k) :: He.keysIn P ks := h
    injection h1 with h2 h3
    rcases List.mem_cons.mp he with rfl | he
    · unfold He.keyOf at h2
      split at h2
      · rename_i x t q
        obtain ⟨h5, _⟩ := Prod.mk.inj (Option.some.inj h2)
        exact ⟨k, List.mem_cons_self, t, by rw [q, h5]⟩
      · cases h2
    · obtain ⟨k', hk, t, q⟩ := keyOf_of h3 e' he
      exact ⟨k', List.mem_cons_of_mem _ hk, t, q⟩
theorem dicW_at {K : PySem.W.Frag} {a : Addr} {l : List (Option (Str × Int))} (h : He.dicW K a = some l) : ∃ es n sl, K.lookup a = some ⟨.type "dict", none, .dict es n, sl⟩ ∧ es.toList.map He.keyOf = l := by
  unfold He.dicW at h
  split at h
  · rename_i c es n sl q
    cases z : decide (c = "dict") && (sl.isEmpty && !(a == sysModules)) with
    | false => rw [z] at h; cases h
    | true =>
      rw [z] at h
      rw [Bool.and_eq_true, decide_eq_true_eq] at z
      obtain ⟨rfl, _⟩ := z
      exact ⟨es, n, sl, q, Option.some.inj h⟩
  · cases h
theorem ns_none {K : PySem.W.Frag} {P : Params} {a : Addr} {ks : List Str} (h : He.dicW K a = some (He.keysIn P ks)) {z : Str} (hz : z ∉ ks) : PySem.W.nsIn K a z = some none := by
  obtain ⟨es, n, sl, q, hk⟩ := dicW_at h
  have key := keyOf_of hk
  unfold PySem.W.nsIn
  rw [q]
  dsimp only
  have f : es.toList.find? (·.key.isStr z) = none := by
    rw [List.find?_eq_none]
    intro e he
    obtain ⟨k, hk, t, ek⟩ := key e he
    rw [ek]
    have : k ≠ z := fun y => hz (y ▸ hk)
    simp [Value.isStr, this]
  have g : es.toList.any (·.refKey) = false := by
    rw [List.any_eq_false]
    intro e he
    obtain ⟨k, hk, t, ek⟩ := key e he
    simp [DictEntry.refKey, ek]
  rw [f]
  dsimp only
  rw [g]
  rfl
theorem dct_mk {K : PySem.W.Frag} {w : World} {mg : Str → Option Value} {x : String} {a : Addr} {tab : List (Str × Int)} (hm : mg (Str.ofString x) = some (.ref a)) (h : He.dicW K a = some (He.keysIn w.params (tab.map (·.1)))) (nd : (tab.map (·.1)).Nodup)
    (vals : ∀ p ∈ tab, ∃ t, PySem.W.nsIn K a p.1 = some (some (.int p.2 t))) : DctOk K w mg x tab := by
  obtain ⟨es, n, D⟩ := He.dicW_ok h
  refine ⟨a, es, n, hm, D, fun z => ?_⟩
  cases hg : getG tab z with
  | none => exact ns_none h fun hz => by have := get_someG.mpr hz; rw [hg] at this; cases this
  | some i =>
    unfold getG at hg
    obtain ⟨p, hp, e⟩ := Option.map_eq_some_iff.mp hg
    have hk : p.1 = z := by simpa using List.find?_some hp
    obtain ⟨t, ht⟩ := vals p (List.mem_of_find?_eq_some hp)
    rw [hk, e] at ht
    exact ⟨t, ht⟩
section
variable {X : Cx} {W : WX} {A : Nat → Prop} {a : Expr} {pos p : Pos} {x : String} {tab : List (Str × Int)} {f : DL.Env → Res D}
end
end DL

/-! what the head's facts say -/
namespace DL
open PySem PySem.Spec PyProof.Rows L2
open PySem.Builtin.Int (intBits)
section
variable {fs : List BF} {fn : List DX} {fm : List He.DefD} {ts : List He.Tab} {w : World} {K : PySem.W.Frag}
theorem SaysX.ft (c : SaysX fs fn fm ts w K) (i : Nat) {f : BF} (h : fs[i]? = some f) : f K = true := by
  have c1 := (He.ba (show ((fs.all fun f => f K) && fm.all fun d => d.ok K) = true from congrArg (fun z : AlX => z.1) c.eq)).1
  exact List.all_eq_true.mp c1 f (List.mem_of_getElem? h)
theorem oneX_ok {K : PySem.W.Frag} {d : DX} (e : oneX K d = d.val) : PySem.W.nsIn K mainGlobals d.x = some (some (.ref (He.ga K d.x))) ∧ ∃ fd, FunD K d.r d.r (L2.defArgs d.st) (L2.defBody d.st) (L2.defScope d.st) (d.dfl.map V.int) [] (He.ga K d.x) fd := by
  unfold oneX at e
  unfold He.ga
  split at e
  · rename_i a q
    rw [q]
    refine ⟨rfl, ?_⟩
    rw [HandSHeadRun.frNat_eq] at e
    dsimp only
    split at e
    · rename_i oc od fd sl q2
      obtain ⟨n1, n2, n3, n4, n5, n6, n7, n8, n9, n10, n11, n12, n13, n14, n15⟩ := fd
      unfold DX.val at e
      simp only [Prod.mk.injEq, Option.some.injEq, Bool.and_eq_true] at e
      obtain ⟨⟨h1, h2⟩, h3, h4, h5, h6, h7, h8, h9, h10⟩ := e
      subst h3 h4 h5 h6 h7 h8 h9 h10
      exact ⟨_, ⟨oc, od, n8, n9, n10, n11, n12, n13, n14, sl, rfl, q2, h1, He.dflB_ok h2, .inl rfl⟩, by unfold PySem.W.keepIn; dsimp only; rw [q2]⟩
    · simp [DX.val] at e
  · simp [DX.val] at e
theorem SaysX.def_ (c : SaysX fs fn fm ts w K) (i : Nat) {d : DX} (h : fn[i]? = some d) : PySem.W.nsIn K mainGlobals d.x = some (some (.ref (He.ga K d.x))) ∧ ∃ fd, FunD K d.r d.r (L2.defArgs d.st) (L2.defBody d.st) (L2.defScope d.st) (d.dfl.map V.int) [] (He.ga K d.x) fd := by
  have e : fn.map (fun d => oneX K d) = fn.map DX.val := congrArg (fun z : AlX => z.2.1) c.eq
  have e2 : (fn.map fun d => oneX K d)[i]? = (fn.map DX.val)[i]? := by rw [e]
  rw [List.getElem?_map, List.getElem?_map, h] at e2
  exact oneX_ok (Option.some.inj e2)
theorem fun_ofD {x qual : Str} {st : Stmt} {f : Addr} {fd : FuncData} (F : FunD K x qual (L2.defArgs st) (L2.defBody st) (L2.defScope st) [] [] f fd) : L2.Fun K x qual st f fd := by
  obtain ⟨oc, od, dV, kV, doc, pm, an, cdv, ct, osl, e, lk, cd, dv, _⟩ := F.ex
  rcases dv with ⟨_, e2⟩ | ⟨e2, _⟩
  · subst e2
    exact ⟨⟨oc, od, kV, doc, pm, an, cdv, ct, osl, e, lk, cd⟩, F.kp⟩
  · exact absurd rfl e2
theorem SaysX.fd {h : Heap} {mg : Str → Option Value} (c : SaysX fs fn fm ts w K) (X : K.In h) (G : h.Ns mainGlobals mg) (i : Nat) {x r : Str} {st : Stmt} (e : fn[i]? = some ⟨x, r, st, []⟩) : mg x = some (.ref (He.ga K x)) ∧ ∃ fd, L2.Fun K r r st (He.ga K x) fd := by
  obtain ⟨a, fd, F⟩ := c.def_ i e
  exact ⟨PySem.W.mg_of X G a, fd, fun_ofD F⟩
theorem SaysX.tab (c : SaysX fs fn fm ts w K) (i : Nat) {t : He.Tab} (h : ts[i]? = some t) : He.dicW K (t.1 K) = some (He.keysIn w.params t.2) := by
  have e : ts.map (fun t => He.dicW K (t.1 K)) = ts.map fun t => some (He.keysIn w.params t.2) := congrArg (fun z : AlX => z.2.2.2) c.eq
  have e2 : (ts.map fun t => He.dicW K (t.1 K))[i]? = (ts.map fun t => some (He.keysIn w.params t.2))[i]? := by rw [e]
  rw [List.getElem?_map, List.getElem?_map, h] at e2
  exact Option.some.inj e2
/-! ### facts -/
variable {h : Heap} {mg : Str → Option Value}
theorem SaysX.ns (c : SaysX fs fn fm ts w K) (i : Nat) {x : Str} (e : fs[i]? = some (fGlo x)) : PySem.W.nsIn K mainGlobals x = some (some (.ref (He.ga K x))) := He.eqO_ok (c.ft i e)
theorem SaysX.glo (c : SaysX fs fn fm ts w K) (X : K.In h) (G : h.Ns mainGlobals mg) (i : Nat) {x : Str} (e : fs[i]? = some (fGlo x)) : mg x = some (.ref (He.ga K x)) := PySem.W.mg_of X G (c.ns i e)
theorem SaysX.free (c : SaysX fs fn fm ts w K) (X : K.In h) (G : h.Ns mainGlobals mg) (i : Nat) {x : Str} (e : fs[i]? = some (fFree x)) : mg x = none := PySem.W.mg_none_of X G (He.eqO_ok (c.ft i e))
theorem SaysX.cls (c : SaysX fs fn fm ts w K) (i : Nat) {x : Str} (e : fs[i]? = some (fCls x)) : PySem.W.subIn K (.ref (He.ga K x)) (.type "BaseException") = some true ∧ PySem.W.typeIn K (.ref (He.ga K x)) = some (.type "type") := by
  obtain ⟨a, b⟩ := He.ba (show (decide (PySem.W.subIn K (.ref (He.ga K x)) (.type "BaseException") = some true) && decide (PySem.W.typeIn K (.ref (He.ga K x)) = some (.type "type"))) = true from c.ft i e)
  exact ⟨of_decide_eq_true a, of_decide_eq_true b⟩
theorem SaysX.exc (c : SaysX fs fn fm ts w K) (i : Nat) {x : Str} (e : fs[i]? = some (fExc x)) : PySem.W.excIn K (He.ga K x) [.type "ValueError", .type "Exception", .type "BaseException", .type "object"] "ValueError.__new__" = true := c.ft i e
theorem SaysX.sub (c : SaysX fs fn fm ts w K) (i : Nat) {x y : Str} {b : Bool} (e : fs[i]? = some (fSub x y b)) : PySem.W.subIn K (.ref (He.ga K x)) (.ref (He.ga K y)) = some b := of_decide_eq_true (c.ft i e)
theorem SaysX.ne (c : SaysX fs fn fm ts w K) (i : Nat) {x y : Str} (e : fs[i]? = some (fNe x y)) : (Value.ref (He.ga K x) == Value.ref (He.ga K y)) = false := by
  have z : (!(Value.ref (He.ga K x) == Value.ref (He.ga K y))) = true := c.ft i e
  simpa using z
/-! ### constants -/
noncomputable def KC.d : Nat → KC → D
  | 0, _ => .non
  | n + 1, c => match c with
    | .int i => .int i
    | .str x => .str x
    | .tup l => .con (l.map (KC.d n))
theorem conL_ok {n : Nat} (h : ∀ d u, conB K n d u = true → Con K (KC.d n d) u) : ∀ {ds : List KC} {us : List Value}, conL (conB K n) ds us = true → Cons K (ds.map (KC.d n)) us
  | [], [], _ => rfl
  | [], _ :: _, e => by cases e
  | _ :: _, [], e => by cases e
  | d :: ds, u :: us, e => by
    obtain ⟨a, b⟩ := He.ba (show (conB K n d u && conL (conB K n) ds us) = true from e)
    exact ⟨u, us, rfl, h d u a, conL_ok h b⟩
theorem conB_ok : ∀ {n : Nat} {d : KC} {u : Value}, conB K n d u = true → Con K (KC.d n d) u
  | 0, _, _, e => by cases e
  | n + 1, d, u, e => by
    unfold conB at e
    split at e
    · rw [of_decide_eq_true e]
      exact Con.int
    · rw [of_decide_eq_true e]
      exact Con.str
    · split at e
      · rename_i its _ _ lk
        obtain ⟨a, b⟩ := He.ba e
        obtain ⟨b, d⟩ := He.ba b
        have ea := of_decide_eq_true a
        subst ea
        refine Con.tup (us := its.toList) lk (conL_ok (fun _ _ => conB_ok) d) ?_
        simpa using of_decide_eq_true b
      · cases e
    · cases e
theorem SaysX.con (c : SaysX fs fn fm ts w K) (X : K.In h) (G : h.Ns mainGlobals mg) (i : Nat) {x : String} {d : KC} (e : fs[i]? = some (fCon (Str.ofString x) d)) : ConOk K mg x (d.d 9) := by
  have z := c.ft i e
  unfold fCon at z
  split at z
  · rename_i u q
    exact (conB_ok z).at (PySem.W.mg_of X G q)
  · cases z
/-! ### a dict of the module -/
theorem SaysX.dct (c : SaysX fs fn fm ts w K) (X : K.In h) (G : h.Ns mainGlobals mg) (i j k : Nat) {x : String} {tab : List (Str × Int)} (e1 : fs[i]? = some (fGlo (Str.ofString x))) (e2 : fs[j]? = some (fTab (Str.ofString x) tab)) (e3 : ts[k]? = some (fun K => He.ga K (Str.ofString x), tab.map (·.1))) (nd : (tab.map (·.1)).Nodup) : DctOk K w mg x tab := by
  refine dct_mk (c.glo X G i e1) (c.tab k e3) nd fun p hp => ?_
  have z := List.all_eq_true.mp (show (tab.all fun p => match PySem.W.nsIn K (He.ga K (Str.ofString x)) p.1 with
    | some (some (.int j _)) => decide (j = p.2)
    | _ => false) = true from c.ft j e2) p hp
  split at z
  · rename_i u t q
    have z2 := of_decide_eq_true z
    subst z2
    exact ⟨t, q⟩
  · cases z
end
/-- the law's own call -/
theorem law_binds {K : PySem.W.Frag} {x qual p : Str} {st : Stmt} {f : Addr} {fd : FuncData} (F : L2.Fun K x qual st f fd) (h : ∀ (kV doc pm : Value) (an : Option Addr) (cdv ct : Value) (s : Shared) (u : Value), BindsTo s (PySem.W.fnOf x qual (L2.defArgs st) (L2.defBody st) (L2.defScope st) .none kV doc pm an cdv ct) ⟨[u], []⟩ [(p, u)]) (s : Shared) (u : Value) : BindsTo s fd ⟨[u], []⟩ [(p, u)] := by
  obtain ⟨oc, od, kV, doc, pm, an, cdv, ct, osl, rfl, _, _⟩ := F.ex
  exact h kV doc pm an cdv ct s u
/-! ### the end -/
theorem endX {l : PySem.W.OpenLaw} {k : Nat} {q : Program} {loose : List Str} {XP : (Str → Option Value) → Heap → Prop} {d : DefRec} {x : Str} {F : List D → Res D} {m : Nat} {fa : List BF} {fn : List DX} {ts : List He.Tab}
    (hn : l.most = some 63) (hdf : d.params.defaults = []) (hk : k < 60)
    (FF : ∀ (w : World) (mg : Str → Option Value) (a : Addr) (h : Heap) (K : PySem.W.Frag), K.In h → SaysX fa fn fm ts w K → h.Ns mainGlobals mg → mg d.name = some (.ref a) →
      ∃ fd : FuncData, (∀ (s : Shared) (u : Value), BindsTo s fd ⟨[u], []⟩ [(x, u)]) ∧ ∀ base : Heap, K.In base → base.Ns mainGlobals mg → FnOk l.prog w K mg base (L2.CX l.prog w) k a fd [x] (spD K mg 1 F))
    (law : ∀ ns : List Int, ns.length ≤ 63 → (∀ z ∈ ns, intBits z ≤ 1048576) → F [.lst (ns.map D.int)] = .ok (.bl true)) :
    PySem.W.WalkO q loose XP (hookX m fa fn fm ts).says l.row.toRowW d [] (fun f vs => PySem.call f vs) := by
  refine Att.attach_callB hn hdf fun w s₀ s₁ mg mb fa_ o pm cd doc a vs ns G Y ho hd hcd hmg hobj hints hlen hbits hg => ?_
  obtain ⟨K, KX, c⟩ := Y
  obtain ⟨fd, b1, b2⟩ := FF w mg fa_ _ K KX c G.T.g hmg
  let sp : Sp := fun vs H Q E => vs.length = 1 ∧ ∃ (a : Addr) (ns : List Int), vs = [.ref a] ∧ ns.length ≤ 63 ∧ (∀ z ∈ ns, intBits z ≤ 1048576) ∧ SqL K H a (ns.map V.int) ∧ ∀ H', Q (.bl true) H'
  refine law_call (CX := L2.CX l.prog w) (k := k) (sp := sp) KX G.T.g G.T.b G.T.builtins G.T.nolimit hg hobj hints (Nat.le_trans hlen (by rw [PySem.sizeLine_eq]; decide)) (Room.mono (k := 60) ⟨rfl, by decide, by decide⟩ (by omega)) (fun base k1 k2 => ?_) b1 (fun H _ hS => ⟨rfl, a, ns, rfl, hlen, hbits, hS, fun _ => rfl⟩) fun H e s' => ?_
  · have f := b2 base k1 k2
    refine ⟨fun vs H Q E h => h.1, fun A outer s H args us vs Q E r e bt vv hsp => f.run A outer s H args us vs Q E r e bt vv ?_⟩
    obtain ⟨_, a, ns, rfl, hl, hb, hS, hq⟩ := hsp
    refine ⟨rfl, [.lst (ns.map D.int)], H, Sub.refl H, ⟨_, _, rfl, ⟨a, _, rfl, hS, RepL.of_ints ns⟩, rfl⟩, ?_⟩
    rw [law ns hl hb]
    exact fun H' G' _ v hv => by cases (show v = .bl true from hv); exact hq H'
  · rintro ⟨_, _, _, _, _, _, _, _, _, _, _, _, z⟩
    exact z
end DL

/-! readings: texts in order, and more -/
namespace DL
open PySem PySem.Spec PyProof.Rows L2
section
end
end DL
namespace DL
/-- a loop that may give back before its end -/
theorem Ok.forX {α S R : Type} {f : α → S → Res (Oc S R)} {l : List α} {s : S} (I : List α → S → Prop) (Q : R → Prop) (h0 : I [] s) (h : ∀ d a r s, l = d ++ a :: r → I d s → Ok (f a s) fun o => match o with | .nx s' => I (d ++ [a]) s' | .rt v => Q v | .bk _ => False) :
    Ok (forX l s f) fun o => match o with | .nx s' => I l s' | .rt v => Q v | .bk _ => False := by
  have gen : ∀ (r d : List α) (s : S), l = d ++ r → I d s → Ok (DL.forX r s f) fun o => match o with | .nx s' => I l s' | .rt v => Q v | .bk _ => False := by
    intro r
    induction r with
    | nil => intro d s e hI; rw [e, List.append_nil]; exact ⟨_, rfl, hI⟩
    | cons a r ih =>
      intro d s e hI
      unfold DL.forX
      obtain ⟨o, eo, ho⟩ := h d a r s e hI
      rw [eo, Res.bind_ok]
      cases o with
      | nx s' => exact ih (d ++ [a]) s' (by rw [e, List.append_assoc]; rfl) ho
      | rt v => exact ⟨_, rfl, ho⟩
      | bk s' => exact ho.elim
  exact gen l [] s rfl h0
end DL

/-! readings: insert, try, what is a list or a tuple -/
namespace DL
open PySem PySem.Spec PyProof.Rows L2
section
variable {α β T S R : Type} {ρ ρ' ρx : KEnv} {a b c : DL.Env → Out}
/-! ### try -/
/-- a handler that names the error: the same whatever its address -/
def UH {T : Type} (i : Nat) (ρ : KEnv) (fs : Addr → DL.Env → Out) (r : Res T) (P : T → KEnv) : Prop := ∀ e, Le ρ e → match r with
  | .ok t => ∃ e', (∀ a, clrN i (fs a (e.set i (some (.obj (.ref a), false)))) = .nx e') ∧ Le (P t) e'
  | _ => True
/-! ### a list or a tuple -/
/-! ### less known of what was handed on -/
def Lw : KEnv → KEnv → Prop := A2 fun r x => ∀ P, r = some P → ∃ P', x = some P' ∧ ∀ d o, P' d o → P d o
theorem Lw.nil : Lw [] [] := rfl
theorem Lw.same {r : Option Kn} {a b : KEnv} (s : Lw a b) : Lw (r :: a) (r :: b) := ⟨_, _, rfl, fun P h => ⟨P, h, fun _ _ h => h⟩, s⟩
end
section
variable {α β : Type}
/-! ### equality where texts stand in tuples -/
structure EqG {α : Type} [DecidableEq α] (E : RE α) (ok : α → Bool) (n : Nat) : Prop where
  pl : ∀ a d, ok a = true → E a d → d.pl n = true
  beq : ∀ a b x y, E a x → E b y → PyData.eqv x.py y.py = decide (a = b)
structure EqGQ {α : Type} [DecidableEq α] (Q : α → List D → Prop) (ok : α → Bool) (n : Nat) : Prop where
  pl : ∀ a d, ok a = true → Q a d → D.pls d n = true
  beq : ∀ a b x y, Q a x → Q b y → PyData.eqvAll (D.pys x) (D.pys y) = decide (a = b)
theorem EqG.of [DecidableEq α] {E : RE α} {n : Nat} (h : EqE E n) : EqG E (fun _ => true) n := ⟨fun a d _ r => h.pl a d r, h.beq⟩
theorem EqG.str (n : Nat) : EqG eS PyData.strOk n := ⟨by rintro a _ h rfl; exact h, by
  rintro a b _ _ rfl rfl
  simp [D.py, PyData.eqv]
  exact Bool.eq_iff_iff.mpr (by simp)⟩
theorem EqGQ.one [DecidableEq α] {E : RE α} {n : Nat} {ok : α → Bool} (h : EqG E ok n) : EqGQ (q1 E) ok n := ⟨by
  rintro a _ k ⟨d, rfl, hd⟩
  simp [D.pls, h.pl a d k hd], by
  rintro a b _ _ ⟨d, rfl, hd⟩ ⟨d', rfl, hd'⟩
  simp only [D.pys, PyData.eqvAll, h.beq a b d d' hd hd', Bool.and_true]⟩
theorem EqGQ.c [DecidableEq α] [DecidableEq β] {E : RE α} {Q : β → List D → Prop} {n : Nat} {ok : α → Bool} {ok' : β → Bool} (h : EqG E ok n) (k : EqGQ Q ok' n) : EqGQ (qC E Q) (fun p => ok p.1 && ok' p.2) n := ⟨by
  rintro ⟨a, b⟩ _ o ⟨d, r, rfl, hd, hr⟩
  simp only [Bool.and_eq_true] at o
  simp [D.pls, h.pl a d o.1 hd, k.pl b r o.2 hr], by
  rintro ⟨a, b⟩ ⟨a', b'⟩ _ _ ⟨d, r, rfl, hd, hr⟩ ⟨d', r', rfl, hd', hr'⟩
  simp only [D.pys, PyData.eqvAll, h.beq _ _ d d' hd hd', k.beq _ _ r r' hr hr']
  by_cases h1 : a = a' <;> by_cases h2 : b = b' <;> simp [h1, h2]⟩
/-! ### dicts with row keys compared -/
theorem dGt_ans (a b : List Int) : dGt (ans a) (ans b) = .ok (.bl (lexB b a)) := by
  show cmpD (fun x y => D.lt y x) (ans a) (ans b) = _
  unfold cmpD
  have c : D.cmpb (ans a) (ans b) = true := by
    unfold D.cmpb
    rw [ans_pl a 59, ans_pl b 59, ans_alike]
    rfl
  rw [if_pos c]
  show Res.ok (D.bl (D.lt (ans b) (ans a))) = _
  rw [lt_ans]
end
end DL

/-! readings: defs that are lent lists and dicts -/
namespace DL
open PySem PySem.Spec PyProof.Rows L2
section
variable {α β R S T C C' : Type} {ρ ρ' : KEnv} {c : DL.Env → Out}
/-- the names at its start -/
def LeAM (bs : List Nat) (k : Nat) (ds : List D) (ρ : KEnv) : Prop := Le ρ (envMa bs k ds)
theorem LeAM.nil {bs : List Nat} {k : Nat} : LeAM bs k [] [] := rfl
theorem LeAM.sh {bs : List Nat} {k : Nat} {E : RE α} {x : α} {d : D} {ds : List D} (h : E x d) (hb : bs.elem k = false) (t : LeAM bs (k + 1) ds ρ) : LeAM bs k (d :: ds) (some (sh E x) :: ρ) := ⟨some (d, bs.elem k), _, rfl, fun P hP => ⟨d, _, rfl, by cases hP; exact ⟨h, hb⟩⟩, t⟩
theorem LeAM.ow {bs : List Nat} {k : Nat} {E : RE α} {x : α} {d : D} {ds : List D} (h : E x d) (hb : bs.elem k = true) (t : LeAM bs (k + 1) ds ρ) : LeAM bs k (d :: ds) (some (DL.ow E x) :: ρ) := ⟨some (d, bs.elem k), _, rfl, fun P hP => ⟨d, _, rfl, by cases hP; exact ⟨h, hb⟩⟩, t⟩
/-! ### calls -/
inductive KM where
  | v
  | o (i : Nat)
  | n
variable {al : List Nat}
end
end DL
namespace DL
open PySem PySem.Spec PyProof.Rows L2
end DL

/-! readings: loops of a def that is lent lists and dicts, with returns in them -/
namespace DL
open PySem PySem.Spec PyProof.Rows L2
section
variable {α β R S T C : Type} {ρ ρ' : KEnv} {a b c : DL.Env → Out} {P : T → Out → Prop}
end
end DL
namespace DL
open PySem PySem.Spec PyProof.Rows L2
end DL
namespace DL
open PySem PySem.Spec PyProof.Rows L2
end DL

/-! readings: what a lent def tells is given on, taken apart, or stands in a pair -/
namespace DL
open PySem PySem.Spec PyProof.Rows L2
section
variable {α β γ R S T C C' : Type} {ρ ρ' : KEnv} {c : DL.Env → Out} {al : List Nat}
end
end DL
namespace DL
open PySem PySem.Spec PyProof.Rows L2
/-! ### places in texts -/
end DL
namespace DL
end DL
namespace DL
section
variable {α : Type} {ρ : KEnv} {E : RE α} {f : α → D} {g : DL.Env → Res D}
theorem v_mapF {r : Res α} (p : Fun E f) (h : EvR ρ g r E) : EvR ρ g (r.bind fun z => .ok (f z)) eD := v_map h fun _ _ h => (p _ _).mp h
theorem v_castF {a : α} (p : Fun E f) (h : EvR ρ g (.ok a) E) : EvR ρ g (.ok (f a)) eD := v_cast h fun _ h => (p _ _).mp h
end
end DL
namespace DL
end DL

/-! readings: x.update(e); statements never reached -/
namespace DL
open PySem PySem.Spec PyProof.Rows L2
section
variable {α β T : Type} {ρ : KEnv} {c : DL.Env → Out}
variable [DecidableEq α] {f : α → D} {E : RE β}
end
section
variable {ρ : KEnv} {f : DL.Env → Res D}
end
section
variable {α : Type} {E : RE α} {x : α} {a b : KEnv}
end
section
variable {ρ : KEnv} {f : DL.Env → Res D}
end
end DL

/-! readings: tuples known to have no dict of their own -/
namespace DL
open PySem PySem.Spec PyProof.Rows L2
section
variable {α β γ T : Type} {ρ : KEnv} {f : DL.Env → Res D} {fl fh : DL.Env → Res (Option Int)} {fs : DL.Env → Res (List D)}
def ePT {α : Type} (E : RE α) : RE (List α) := fun l d => ∃ ds, d = .con ds ∧ A2 E l ds
def fPT {α : Type} (f : α → D) : List α → D := fun l => .con (l.map f)
theorem Fun.pt {E : RE α} {f : α → D} (h : Fun E f) : Fun (ePT E) (fPT f) := fun a d =>
  ⟨fun ⟨ds, e, r⟩ => by rw [e, (a2_fun h a ds).mp r]; rfl, fun e => ⟨_, e, (a2_fun h a _).mpr rfl⟩⟩
theorem EqE.pt [DecidableEq α] {E : RE α} {n : Nat} (h : EqE E n) : EqE (ePT E) (n + 1) := ⟨by
  rintro a _ ⟨ds, rfl, r⟩; exact a2_pls h r, by
  rintro a b _ _ ⟨ds, rfl, r⟩ ⟨es, rfl, s⟩
  rw [D.py, D.py, PyData.eqv]; exact a2_eqvs h r s⟩
/-! a list, a tuple or a plain tuple -/
/-! remove of rows -/
noncomputable def remR (l : List (List Int)) (k : List Int) : Res (List (List Int)) := if k ∈ l then .ok (rmv l k) else .bad
theorem remR_nx (l : List (List Int)) (k : List Int) (c : String) (fs : List (D × D)) : remR l k ≠ .exc c fs := by unfold remR; split <;> simp
theorem remR_ok {l : List (List Int)} {k : List Int} (h : k ∈ l) : remR l k = .ok (rmv l k) := if_pos h
theorem d_rem {al : List Nat} {i : Nat} {l : List (List Int)} {r : Res (List Int)} (hf : (fzK al ρ)[i]? = some (some (ow (eL eR) l))) (h : EvR ρ f r eR) :
    J ρ (sMut al i gRemove (aCons f aNil)) (r.bind fun k => remR l k) (PN fun l' => (fzK al ρ).set i (some (ow (eL eR) l'))) :=
  sMut_J hf (vq_1 h) (fun ds b es l' h1 h2 h3 => by
    obtain ⟨d, rfl, hd⟩ := h2
    rw [show d = ans b from hd]
    unfold remR at h3
    split at h3
    · rename_i hl
      cases h3
      rw [A2.fn.mp h1]
      exact ⟨_, remove_rows hl, A2.fn.mpr rfl⟩
    · cases h3) (fun b => remR_nx l _)
/-! methods -/
/-! dict(t) -/
end
end DL

/-! readings: defs that give back a new list -/
namespace DL
open PySem PySem.Spec PyProof.Rows L2
section
variable {α β R S T : Type} {ρ : KEnv} {c : DL.Env → Out}
end
end DL

/-! readings: texts of numbers, put together and taken apart -/
namespace DL
open PySem PySem.Spec PyProof.Rows L2
section
variable {α β R S T : Type} {ρ : KEnv} {f g : DL.Env → Res D}
/-! f-strings -/
/-! the sum of a dict's values -/
end
end DL

/-! readings: several except clauses -/
namespace DL
open PySem PySem.Spec PyProof.Rows L2
section
variable {α β R S T : Type} {ρ ρx : KEnv} {a : DL.Env → Out}
inductive HUL {S : Type} (ρx : KEnv) (ρs : S → KEnv) : List Hdl → List ((String → Option Bool) × (String → Res S)) → Prop
  | nil : HUL ρx ρs [] []
  | cons {i : Nat} {h : String → Option Bool} {fs : Addr → String → DL.Env → Out} {k : String → Res S} {l : List Hdl} {kl : List ((String → Option Bool) × (String → Res S))} (u : ∀ c, UH i ρx (fun ad => fs ad c) (k c) ρs) (r : HUL ρx ρs l kl) : HUL ρx ρs ((i, h, fs) :: l) ((h, k) :: kl)
/-! l.index(row) of a list of rows -/
end
end DL

/-! readings: a loop over a list of one's own that is kept one's own -/
namespace DL
open PySem PySem.Spec PyProof.Rows L2
/-- the data are told by the reading alone -/
class FnE {α : Type} (E : RE α) : Prop where
  eq : ∀ x d d', E x d → E x d' → d = d'
theorem a2_fn {α : Type} {E : RE α} (h : ∀ x d d', E x d → E x d' → d = d') : ∀ {l : List α} {r r' : List D}, A2 E l r → A2 E l r' → r = r'
  | [], _, _, a, b => by rw [show _ = [] from a, show _ = [] from b]
  | x :: l, _, _, ⟨d, r, e, h1, t⟩, ⟨d', r', e', h1', t'⟩ => by rw [e, e', h x d d' h1 h1', a2_fn h t t']
instance : FnE eI := ⟨fun _ _ _ h k => by rw [show _ = _ from h, show _ = _ from k]⟩
instance : FnE eB := ⟨fun _ _ _ h k => by rw [show _ = _ from h, show _ = _ from k]⟩
instance : FnE eS := ⟨fun _ _ _ h k => by rw [show _ = _ from h, show _ = _ from k]⟩
instance : FnE eR := ⟨fun _ _ _ h k => by rw [show _ = _ from h, show _ = _ from k]⟩
instance : FnE eD := ⟨fun _ _ _ h k => by rw [show _ = _ from h, show _ = _ from k]⟩
instance {α : Type} {E : RE α} [FnE E] : FnE (eL E) := ⟨fun _ _ _ ⟨_, e, h⟩ ⟨_, e', h'⟩ => by rw [e, e', a2_fn FnE.eq h h']⟩
instance {α : Type} {E : RE α} [FnE E] : FnE (eT E) := ⟨fun _ _ _ ⟨_, e, h⟩ ⟨_, e', h'⟩ => by rw [e, e', a2_fn FnE.eq h h']⟩
class FnQ {α : Type} (Q : α → List D → Prop) : Prop where
  eq : ∀ x d d', Q x d → Q x d' → d = d'
instance : FnQ qN := ⟨fun _ _ _ h k => by rw [show _ = _ from h, show _ = _ from k]⟩
instance {α : Type} {E : RE α} [FnE E] : FnQ (q1 E) := ⟨fun _ _ _ ⟨_, e, h⟩ ⟨_, e', h'⟩ => by rw [e, e', FnE.eq _ _ _ h h']⟩
instance {α β : Type} {E : RE α} {Q : β → List D → Prop} [FnE E] [FnQ Q] : FnQ (qC E Q) := ⟨fun _ _ _ ⟨_, _, e, h, q⟩ ⟨_, _, e', h', q'⟩ => by rw [e, e', FnE.eq _ _ _ h h', FnQ.eq _ _ _ q q']⟩
instance {α : Type} {Q : α → List D → Prop} [FnQ Q] : FnE (eQ Q) := ⟨fun _ _ _ ⟨_, e, h⟩ ⟨_, e', h'⟩ => by rw [e, e', FnQ.eq _ _ _ h h']⟩
/-- numbers, texts, truth values and tuples of these -/
class TfE {α : Type} (E : RE α) : Prop where
  tf : ∀ x d, E x d → d.tfl = true
theorem a2_tf {α : Type} {E : RE α} (h : ∀ x d, E x d → d.tfl = true) : ∀ {l : List α} {r : List D}, A2 E l r → D.tfls r = true
  | [], _, a => by rw [show _ = [] from a]; rfl
  | x :: l, _, ⟨d, r, e, h1, t⟩ => by rw [e]; exact Bool.and_eq_true_iff.mpr ⟨h x d h1, a2_tf h t⟩
instance : TfE eI := ⟨fun _ _ h => by rw [show _ = _ from h]; rfl⟩
instance : TfE eB := ⟨fun _ _ h => by rw [show _ = _ from h]; rfl⟩
instance : TfE eS := ⟨fun _ _ h => by rw [show _ = _ from h]; rfl⟩
theorem tfls_ints : ∀ l : List Int, D.tfls (l.map D.int) = true
  | [] => rfl
  | _ :: l => Bool.and_eq_true_iff.mpr ⟨rfl, tfls_ints l⟩
instance : TfE eR := ⟨fun x _ h => by rw [show _ = _ from h]; exact tfls_ints x⟩
instance {α : Type} {E : RE α} [TfE E] : TfE (eT E) := ⟨fun _ _ ⟨_, e, h⟩ => by rw [e]; exact a2_tf TfE.tf h⟩
class TfQ {α : Type} (Q : α → List D → Prop) : Prop where
  tf : ∀ x d, Q x d → D.tfls d = true
instance : TfQ qN := ⟨fun _ _ h => by rw [show _ = _ from h]; rfl⟩
instance {α : Type} {E : RE α} [TfE E] : TfQ (q1 E) := ⟨fun _ _ ⟨_, e, h⟩ => by rw [e]; exact Bool.and_eq_true_iff.mpr ⟨TfE.tf _ _ h, rfl⟩⟩
instance {α β : Type} {E : RE α} {Q : β → List D → Prop} [TfE E] [TfQ Q] : TfQ (qC E Q) := ⟨fun _ _ ⟨_, _, e, h, q⟩ => by rw [e]; exact Bool.and_eq_true_iff.mpr ⟨TfE.tf _ _ h, TfQ.tf _ _ q⟩⟩
instance {α : Type} {Q : α → List D → Prop} [TfQ Q] : TfE (eQ Q) := ⟨fun _ _ ⟨_, e, h⟩ => by rw [e]; exact TfQ.tf _ _ h⟩
/-- the names' data are told by what is known -/
class FnKs (ρ : KEnv) : Prop where
  eq : ∀ (j : Nat) (P : Kn) (d : D) (o : Bool) (d' : D) (o' : Bool), ρ[j]? = some (some P) → P d o → P d' o' → d = d' ∧ o = o'
instance : FnKs [] := ⟨fun j P d o d' o' h => by simp at h⟩
instance {ρ : KEnv} [FnKs ρ] : FnKs (none :: ρ) := ⟨fun j P d o d' o' h => by
  cases j with
  | zero => cases h
  | succ j => exact FnKs.eq (ρ := ρ) j P d o d' o' (by simpa using h)⟩
instance {α : Type} {E : RE α} {x : α} {ρ : KEnv} [FnE E] [FnKs ρ] : FnKs (some (sh E x) :: ρ) := ⟨fun j P d o d' o' h => by
  cases j with
  | zero => cases h; exact fun ⟨a, b⟩ ⟨c, e⟩ => ⟨FnE.eq _ _ _ a c, b.trans e.symm⟩
  | succ j => exact FnKs.eq (ρ := ρ) j P d o d' o' (by simpa using h)⟩
instance {α : Type} {E : RE α} {x : α} {ρ : KEnv} [FnE E] [FnKs ρ] : FnKs (some (ow E x) :: ρ) := ⟨fun j P d o d' o' h => by
  cases j with
  | zero => cases h; exact fun ⟨a, b⟩ ⟨c, e⟩ => ⟨FnE.eq _ _ _ a c, b.trans e.symm⟩
  | succ j => exact FnKs.eq (ρ := ρ) j P d o d' o' (by simpa using h)⟩
section
variable {α β γ R S T : Type} {ρ ρ' : KEnv} {b : DL.Env → Out}
end
end DL

/-! readings: sorted(set(t)) of rows -/
namespace DL
open PySem PySem.Spec PyProof.Rows L2
end DL

/-! readings: plain tuples put together with others, sorted, made a set -/
namespace DL
open PySem PySem.Spec PyProof.Rows L2
end DL

/-! readings: errors with fields; l.pop(i); a text so many times -/
namespace DL
open PySem PySem.Spec PyProof.Rows L2
section
variable {α β R S T : Type} {ρ ρx : KEnv} {a b c : DL.Env → Out}
/-! ### handlers -/
/-- a handler: the same wherever the error lies -/
def UHX {T : Type} (i : Nat) (ρ : KEnv) (kv : List (D × D)) (fs : Addr → Option Addr → DL.Env → Out) (r : Res T) (P : T → KEnv) : Prop := ∀ e, Le ρ e → match r with
  | .ok t => ∃ e', (∀ a d, (d = none ↔ kv = []) → clrN i (fs a d (e.set i (some (slotX a d kv, false)))) = .nx e') ∧ Le (P t) e'
  | _ => True
inductive HUX {S : Type} (ρx : KEnv) (ρs : S → KEnv) : List HdX → List ((String → Option Bool) × (String → List (D × D) → Res S)) → Prop
  | nil : HUX ρx ρs [] []
  | cons {i : Nat} {h : String → Option Bool} {fs : Addr → Option Addr → String → DL.Env → Out} {k : String → List (D × D) → Res S} {l : List HdX} {kl : List ((String → Option Bool) × (String → List (D × D) → Res S))} (u : ∀ c kv, UHX i ρx kv (fun ad d => fs ad d c) (k c kv) ρs) (r : HUX ρx ρs l kl) : HUX ρx ρs ((i, h, fs) :: l) ((h, k) :: kl)
/-! ### l.pop(i) -/
theorem A2.erase {E : α → β → Prop} : ∀ {l : List α} {ds : List β} (n : Nat), A2 E l ds → A2 E (l.eraseIdx n) (ds.eraseIdx n)
  | [], _, n, h => by rw [show _ = [] from h]; exact A2.nil
  | x :: l, _, 0, ⟨y, r, rfl, _, h⟩ => h
  | x :: l, _, n + 1, ⟨y, r, rfl, h1, h⟩ => A2.cons h1 (A2.erase n h)
/-! ### a text so many times -/
end
end DL

/-! readings: defs with defaults; l.clear() -/
namespace DL
open PySem PySem.Spec PyProof.Rows L2
section
variable {α β γ δ T : Type} {ρ ρ' : KEnv} {c : DL.Env → Out}
end
end DL

/-! readings: errors as values -/
namespace DL
open PySem PySem.Spec PyProof.Rows L2
section
variable {α β S T : Type} {ρ ρx : KEnv} {a : DL.Env → Out} {f : DL.Env → Res D} {fs : DL.Env → Res (List D)}
def eEV : RE (String × List (D × D)) := fun x d => d = .err x.1 x.2
theorem Fun.err : Fun eEV (fun x => D.err x.1 x.2) := fun _ _ => Iff.rfl
end
end DL

/-! readings: a whole share displayed -/
namespace DL
open PySem PySem.Spec PyProof.Rows L2
end DL

/-! readings: shifts -/
namespace DL
open PySem PySem.Spec PyProof.Rows L2
open PySem.Builtin.Int (intBits)
end DL

/-! readings: a whole number displayed as a share -/
namespace DL
open PySem PySem.Spec PyProof.Rows L2
end DL

/-! readings: pairs sorted by what stands first, which is unlike from pair to pair -/
namespace DL
open PySem PySem.Spec PyProof.Rows L2
abbrev Tok := Int ⊕ List Nat
/-- a share, as it may stand -/
def ShD (s : D) : Prop := ∃ x : Rat, eH x s
theorem ShD.pl {s : D} (h : ShD s) (n : Nat) : s.pl (n + 1) = true := by
  obtain ⟨x, rfl | rfl⟩ := h
  · unfold shr; simp [D.pl, D.pls]
  · simp [D.pl, D.pls]
theorem ShD.py {s : D} (h : ShD s) : ∃ i j : Int, s.py = .tuple [.int i, .int j] := by
  obtain ⟨x, rfl | rfl⟩ := h
  · exact ⟨x.num, x.den, by unfold shr; simp only [D.py, D.pys]⟩
  · exact ⟨x.num, x.den, by simp only [D.py, D.pys]⟩
end DL

/-! {k: v} with a key that is reckoned, read -/
namespace DL
open PySem PySem.Spec PyProof.Rows L2
open PySem.Builtin.Int (intBits)
end DL

/-! a tuple times a number that may be nought, read -/
namespace DL
open PySem PySem.Spec PyProof.Rows L2
section
variable {α : Type}
end
end DL

/-! readings: two numbers displayed, as a share in lowest terms -/
namespace DL
open PySem PySem.Spec PyProof.Rows L2
end DL

/-! readings: list(d) -/
namespace DL
open PySem PySem.Spec PyProof.Rows L2
variable {β : Type} {E : RE β}
theorem o_lstMK (m : List (Int × β)) : ∀ x, eM false D.int E m x → Rf (dListK x) (.ok (m.map (·.1))) (eL eI) := by
  rintro _ ⟨kvs, rfl, h⟩
  exact ⟨_, rfl, _, rfl, by rw [keys_A2 h]; exact A2.fn.mpr rfl⟩
end DL

/-! max and min of a list of rows: readings -/
namespace DL
open PySem PySem.Spec PyProof.Rows L2
def dMaxR : D → Res D
  | .lst xs => match D.rws xs with
    | some L => match topR L with
      | some m => .ok (ans m)
      | none => .bad
    | none => .bad
  | _ => .bad
section
variable {X : Cx} {W : WX}
theorem c1_maxR (hc : X.calm = true) (hu : X.A.units + 64 < cLine) : Call1 X W (.builtin "max") dMaxR := by
  refine ⟨_, cr_maxR hc hu, fun σ H G x dx Q sg rx p => ?_⟩
  cases dx with
  | lst ds =>
    obtain ⟨q, vs, e, s, r⟩ := rx
    subst e
    dsimp only [dMaxR] at p
    cases hi : D.rws ds with
    | none => rw [hi] at p; exact p.elim
    | some L =>
      rw [hi] at p
      dsimp only at p
      cases ht : topR L with
      | none => rw [ht] at p; exact p.elim
      | some m =>
        rw [ht] at p
        dsimp only at p
        rw [rows_rws hi] at r
        obtain ⟨ks, rfl, e2, at_⟩ := rows_at r
        obtain ⟨m1, m2⟩ := topR_ok ht
        refine ⟨q, ks, rfl, s, fun p hp => sg _ _ (at_ p hp), fun z => ?_, fun k hk hb => ?_⟩
        · subst z; cases e2; cases ht
        · have e : k.2 = m := by
            rw [← e2] at m1 m2
            obtain ⟨k', hk', em⟩ := List.mem_map.mp m1
            have x1 := m2 k.2 (List.mem_map_of_mem hk)
            have x2 := hb k' hk'
            rw [em] at x2
            exact lexB_tri x2 x1
          exact PostG.val (d := ans m) p sg ⟨k.1, _, rfl, at_ k hk, by rw [e]; exact rep_ints m⟩
  | _ => exact (show False from p).elim
end
def maxRR (l : List (List Int)) : Res (List Int) := match topR l with
  | some m => .ok m
  | none => .bad
theorem o_maxRL (l : List (List Int)) : ∀ x, eL eR l x → Rf (dMaxR x) (maxRR l) eR := by
  rintro _ ⟨ds, rfl, r⟩
  rw [A2.fn.mp r]
  unfold maxRR
  show Rf (dMaxR (.lst (rowsD l))) _ _
  dsimp only [dMaxR]
  rw [rws_rows]
  dsimp only
  cases topR l with
  | none => trivial
  | some m => exact ⟨_, rfl, rfl⟩
def dMinR : D → Res D
  | .lst xs => match D.rws xs with
    | some L => match botR L with
      | some m => .ok (ans m)
      | none => .bad
    | none => .bad
  | _ => .bad
section
variable {X : Cx} {W : WX}
theorem c1_minR (hc : X.calm = true) (hu : X.A.units + 64 < cLine) : Call1 X W (.builtin "min") dMinR := by
  refine ⟨_, cr_minR hc hu, fun σ H G x dx Q sg rx p => ?_⟩
  cases dx with
  | lst ds =>
    obtain ⟨q, vs, e, s, r⟩ := rx
    subst e
    dsimp only [dMinR] at p
    cases hi : D.rws ds with
    | none => rw [hi] at p; exact p.elim
    | some L =>
      rw [hi] at p
      dsimp only at p
      cases ht : botR L with
      | none => rw [ht] at p; exact p.elim
      | some m =>
        rw [ht] at p
        dsimp only at p
        rw [rows_rws hi] at r
        obtain ⟨ks, rfl, e2, at_⟩ := rows_at r
        obtain ⟨m1, m2⟩ := botR_ok ht
        refine ⟨q, ks, rfl, s, fun p hp => sg _ _ (at_ p hp), fun z => ?_, fun k hk hb => ?_⟩
        · subst z; cases e2; cases ht
        · have e : k.2 = m := by
            rw [← e2] at m1 m2
            obtain ⟨k', hk', em⟩ := List.mem_map.mp m1
            have x1 := m2 k.2 (List.mem_map_of_mem hk)
            have x2 := hb k' hk'
            rw [em] at x2
            exact lexB_tri x1 x2
          exact PostG.val (d := ans m) p sg ⟨k.1, _, rfl, at_ k hk, by rw [e]; exact rep_ints m⟩
  | _ => exact (show False from p).elim
end
def minRR (l : List (List Int)) : Res (List Int) := match botR l with
  | some m => .ok m
  | none => .bad
theorem o_minRL (l : List (List Int)) : ∀ x, eL eR l x → Rf (dMinR x) (minRR l) eR := by
  rintro _ ⟨ds, rfl, r⟩
  rw [A2.fn.mp r]
  unfold minRR
  show Rf (dMinR (.lst (rowsD l))) _ _
  dsimp only [dMinR]
  rw [rws_rows]
  dsimp only
  cases botR l with
  | none => trivial
  | some m => exact ⟨_, rfl, rfl⟩
theorem dLe_ans (a b : List Int) : dLe (ans a) (ans b) = .ok (.bl (!lexB b a)) := by
  show cmpD (fun x y => !D.lt y x) (ans a) (ans b) = _
  unfold cmpD
  have c : D.cmpb (ans a) (ans b) = true := by
    unfold D.cmpb
    rw [ans_pl a 59, ans_pl b 59, ans_alike]
    rfl
  rw [if_pos c]
  show Res.ok (D.bl (!D.lt (ans b) (ans a))) = _
  have := dGt_ans a b
  rw [show D.lt (ans b) (ans a) = lexB b a from ?_]
  have e : dGt (ans a) (ans b) = .ok (.bl (D.lt (ans b) (ans a))) := by
    show cmpD (fun x y => D.lt y x) (ans a) (ans b) = _
    unfold cmpD
    have c : D.cmpb (ans a) (ans b) = true := by
      unfold D.cmpb
      rw [ans_pl a 59, ans_pl b 59, ans_alike]
      rfl
    rw [if_pos c]
  rw [this] at e
  injection e with e
  injection e with e
  exact e.symm
theorem o_leR (a b : List Int) : ∀ x y, eR a x → eR b y → Rf (dLe x y) (.ok (decide (lexB b a = false))) eB := by rintro _ _ rfl rfl; exact ⟨_, dLe_ans a b, by cases h : lexB b a <;> simp [eB, h]⟩
end DL

namespace DL
open PySem PySem.Spec PyProof.Rows L2
theorem dv {X : Cx} {W : WX} {A : Nat → Prop} (i : Nat) {x : Str} {pos : Pos} (hN : X.N[i]? = some x := by rfl) (hv : Vis X.env.scope x := by first | exact .inl rfl | exact .inr (.inl rfl) | exact .inr (.inr rfl)) (hd : (x == ("__debug__" : Str)) = false := by decide) (hcd : (x == ("__classdict__" : Str)) = false := by decide) : DE X W A (.Name x pos) (eVarS i) := de_vs hN hv hd hcd
theorem vI {ρ : KEnv} (n : Int) : EvR ρ (eC (.int n)) (.ok (D.int n)) eD := v_castF (f := D.int) Fun.int (v_c (E := eI) (a := n) rfl)
theorem vT {ρ : KEnv} (n : Str) : EvR ρ (eC (.str n)) (.ok (D.str n)) eD := v_castF (f := D.str) Fun.str (v_c (E := eS) (a := n) rfl)
theorem vN {ρ : KEnv} (n : Int) : EvR ρ (eC (.int n)) (.ok n) eI := v_c (E := eI) (a := n) rfl
theorem vS {α : Type} {ρ : KEnv} (E : RE α) (a : α) (i : Nat) (h : ρ[i]? = some (some (sh E a)) := by rfl) : EvR ρ (eVarS i) (.ok a) E := v_s h
theorem fsc {N ps : List Str} {sc : Scope} (a : sc.kind = .function := by rfl) (b : sc.isCoroutine = false := by rfl) (c : sc.isGenerator = false := by rfl) (d : N.Nodup := by decide +kernel) (e : N.take ps.length = ps := by rfl) (f : ∀ x ∈ ps, sc.names.lookup x = some .local ∨ sc.names.lookup x = some .cell := by decide +kernel) (g : ∀ y ∈ sc.names, y.2 ≠ .free := by decide +kernel) : FnScope N ps sc := ⟨a, b, c, d, e, f, g⟩
theorem dgN {X : Cx} {pos : Pos} (i : Nat) {x : Str} (hN : X.N.Nodup) (hi : X.N[i]? = some x := by rfl) (hx : Loc X.env.scope x := by first | exact .inl rfl | exact .inr rfl) (hf : X.fn x = true ∨ X.env.scope.names.lookup x = some .local := by first | exact .inl rfl | exact .inr rfl | assumption) : DG X (.Name x pos) (.nm i) := dg_name hN hi hx hf
theorem dsS {X : Cx} {W : WX} {H0 : Bas} {G0 : Hp} {ex : Expr} {pos : Pos} (al : List Nat) (i : Nat) {x : Str} {pos' : Pos} {f : Env → Res D} (hN : X.N.Nodup) (h : DE X W (fun i => i ∈ al) ex f) (hi : X.N[i]? = some x := by rfl) (hx : Loc X.env.scope x := by first | exact .inl rfl | exact .inr rfl) (hs : swapsWith ex (some (.Name x pos')) pos.line X.env = pure false := by rfl)
    (hf : X.fn x = true ∨ X.env.scope.names.lookup x = some .local := by first | exact .inl rfl | exact .inr rfl | assumption) : DS X W H0 G0 (.Assign [.Name x pos'] ex pos) (sSet al i f) := ds_set hN hi hx h hs hf
theorem drV {X : Cx} {W : WX} {A : Nat → Prop} (i : Nat) {x : Str} {pos : Pos} (hN : X.N[i]? = some x := by rfl) (hv : Vis X.env.scope x := by first | exact .inl rfl | exact .inr (.inl rfl) | exact .inr (.inr rfl)) (hd : (x == ("__debug__" : Str)) = false := by decide) (hcd : (x == ("__classdict__" : Str)) = false := by decide) : DR X W A (.Name x pos) (eVar i) := dr_var hN hv hd hcd
theorem dXi {X : Cx} {W : WX} {A : Nat → Prop} (i : Nat) {x : Str} {n : Int} {j : Nat} {p1 p2 p3 : Pos} (hN : X.N[i]? = some x := by rfl) (hv : Vis X.env.scope x := by first | exact .inl rfl | exact .inr (.inl rfl) | exact .inr (.inr rfl)) (hd : (x == ("__debug__" : Str)) = false := by decide) (hcd : (x == ("__classdict__" : Str)) = false := by decide) : DE X W A (.Subscript (.Name x p1) (.Constant (.int n) j p2) p3) (eOp dIx (eVarS i) (eC (.int n))) := de_ix (dr (de_vs hN hv hd hcd)) (dr de_int) (fun _ _ => rfl)
theorem nF {p : Prop} (h : ¬p := by decide +kernel) : p = False := eq_false h
theorem szl {n : Nat} (h : n ≤ 1000000) : n ≤ sizeLine := by rw [PySem.sizeLine_eq]; omega
end DL

namespace DLaw
open DL PySem PySem.Spec PyProof.Rows L2
open PySem.Builtin.Int (intBits)
def top (i : Nat) : Stmt := PySem.Challenge.pw_blurdesk_k19_capped.main.body.getD i (.Pass ⟨0, 0, 0, 0⟩)
/-! what the top says of the built-ins and errors -/
structure Txt (K : PySem.W.Frag) (mg : Str → Option Value) : Prop where
  z_len : mg "len" = none
  z_range : mg "range" = none
  z_tuple : mg "tuple" = none
  z_sorted : mg "sorted" = none
  z_sum : mg "sum" = none
  z_min : mg "min" = none
  z_max : mg "max" = none
  z_int : mg "int" = none
  z_isinstance : mg "isinstance" = none
  z_bool : mg "bool" = none
  z_list : mg "list" = none
  z_dict : mg "dict" = none
  c_MOST : ConOk K mg "MOST" (.int 1000000000000000000)
/-! _law_cell_at -/
abbrev s_l_cell_at : Stmt := top 20
noncomputable def b_l_cell_at : DL.Env → Out := (sSeq (sIf [] (bTest dLt (eVarS 1) (e1 dLen (eVarS 0))) (sSeq (sRet [] (eOp dIxA (eVarS 0) (eVarS 1))) sSkip) sSkip) (sSeq (sRet [] (eC (.int 0))) sSkip))
noncomputable def F_l_cell_at : List D → Res D := runDef 2 2 b_l_cell_at
/-! _law_mix -/
abbrev s_l_mix : Stmt := top 16
noncomputable def b_l_mix : DL.Env → Out := (sSeq (sSet [] 2 (eOp dMod (eOp dAdd (eOp dMul (eVarS 0) (eC (.int 48271))) (eOp dMul (eOp dMul (eOp dAdd (eVarS 1) (eC (.int 1))) (eOp dAdd (eVarS 1) (eC (.int 1)))) (eC (.int 69621)))) (eC (.int 2147483647)))) (sSeq (sRet [] (eOp dMod (eOp dMul (eVarS 2) (eVarS 2)) (eC (.int 2147483629)))) sSkip))
noncomputable def F_l_mix : List D → Res D := runDef 2 3 b_l_mix
/-! _law_number -/
abbrev s_l_number : Stmt := top 17
noncomputable def b_l_number : DL.Env → Out := (sSeq (sSet [] 3 (eCall F_l_mix (aCons (eVarS 0) (aCons (eVarS 1) aNil)))) (sSeq (sIf [] (bTest dEq (eOp dMod (eVarS 3) (eC (.int 5))) (eC (.int 0))) (sSeq (sRet [] (eOp dSub (eOp dMod (eVarS 0) (eOp dAdd (eOp dMul (eC (.int 2)) (eOp dPow (eC (.int 10)) (eC (.int 18)))) (eC (.int 1)))) (eOp dPow (eC (.int 10)) (eC (.int 18))))) sSkip) sSkip) (sSeq (sRet [] (eOp dSub (eOp dMod (eOp dDiv (eVarS 3) (eC (.int 5))) (eVarS 2)) (eOp dDiv (eVarS 2) (eC (.int 2))))) sSkip)))
noncomputable def F_l_number : List D → Res D := runDef 3 4 b_l_number
/-! _law_heap -/
abbrev s_l_heap : Stmt := top 22
noncomputable def b_l_heap_1 : DL.Env → Out := (sSeq (sMut [] 3 gAppend (aCons (e1 dTuple (eComp [5] (.nm 5) (iRange1 (eVarS 1)) bYes (eCall F_l_number (aCons (eVarS 4) (aCons (eOp dAdd (eC (.int 11)) (eOp dMul (eC (.int 3)) (eVarS 5))) (aCons (eVarS 2) aNil)))))) aNil)) sSkip)
noncomputable def b_l_heap : DL.Env → Out := (sSeq (sSet [] 2 (eOp dIxA (eLst (aCons (eC (.int 7)) (aCons (eC (.int 3)) (aCons (eC (.int 3)) (aCons (eC (.int 2)) aNil))))) (eOp dSub (eVarS 1) (eC (.int 1))))) (sSeq (sSetF [] 3 (eLst aNil)) (sSeq (sFor [] (.nm 4) (iSeq (eVarS 0)) b_l_heap_1) (sSeq (sRet [] (e1 dTuple (e1 dSorted (eVar 3)))) sSkip))))
noncomputable def F_l_heap : List D → Res D := runDef 2 6 b_l_heap
/-! _law_names -/
abbrev s_l_names : Stmt := top 21
noncomputable def b_l_names : DL.Env → Out := (sSeq (sRet [] (eDisp [(.inr "a", (eCall F_l_number (aCons (e1 dSum (eVarS 0)) (aCons (eC (.int 301)) (aCons (eC (.int 5)) aNil))))), (.inr "b", (eCall F_l_number (aCons (e1 dSum (eVarS 0)) (aCons (eC (.int 302)) (aCons (eC (.int 5)) aNil)))))])) sSkip)
noncomputable def F_l_names : List D → Res D := runDef 1 1 b_l_names
/-! _law_leaf -/
abbrev s_l_leaf : Stmt := top 18
noncomputable def b_l_leaf : DL.Env → Out := (sSeq (sSet [] 3 (eCall F_l_mix (aCons (eVarS 0) (aCons (eVarS 1) aNil)))) (sSeq (sIf [] (bTest dEq (eOp dMod (eVarS 3) (eC (.int 4))) (eC (.int 0))) (sSeq (sRet [] (eTup (aCons (eC (.str "num")) (aCons (eCall F_l_number (aCons (eVarS 0) (aCons (eOp dAdd (eVarS 1) (eC (.int 100))) (aCons (eC (.int 7)) aNil)))) aNil)))) sSkip) sSkip) (sSeq (sIf [] (bTest dEq (eOp dMod (eVarS 3) (eC (.int 8))) (eC (.int 1))) (sSeq (sRet [] (eTup (aCons (eC (.str "name")) (aCons (eOp dIxA (eLst (aCons (eC (.str "a")) (aCons (eC (.str "b")) (aCons (eC (.str "c")) aNil)))) (eOp dMod (eOp dDiv (eVarS 3) (eC (.int 8))) (eC (.int 3)))) aNil)))) sSkip) sSkip) (sSeq (sRet [] (eTup (aCons (eC (.str "field")) (aCons (eOp dMod (eOp dDiv (eVarS 3) (eC (.int 8))) (eVarS 2)) aNil)))) sSkip))))
noncomputable def F_l_leaf : List D → Res D := runDef 3 4 b_l_leaf
/-! _law_term -/
abbrev s_l_term : Stmt := top 19
noncomputable def b_l_term : DL.Env → Out := (sSeq (sSet [] 3 (eCall F_l_mix (aCons (eVarS 0) (aCons (eVarS 1) aNil)))) (sSeq (sSet [] 4 (eCall F_l_leaf (aCons (eVarS 0) (aCons (eOp dAdd (eVarS 1) (eC (.int 20))) (aCons (eVarS 2) aNil))))) (sSeq (sSet [] 5 (eCall F_l_leaf (aCons (eVarS 0) (aCons (eOp dAdd (eVarS 1) (eC (.int 40))) (aCons (eVarS 2) aNil))))) (sSeq (sSet [] 6 (eOp dMod (eVarS 3) (eC (.int 8)))) (sSeq (sIf [] (bTest dLt (eVarS 6) (eC (.int 3))) (sSeq (sRet [] (eVarS 4)) sSkip) sSkip) (sSeq (sIf [] (bTest dEq (eVarS 6) (eC (.int 3))) (sSeq (sRet [] (eTup (aCons (eC (.str "not")) (aCons (eVarS 4) aNil)))) sSkip) sSkip) (sSeq (sIf [] (bTest dEq (eVarS 6) (eC (.int 4))) (sSeq (sRet [] (eTup (aCons (eC (.str "pick")) (aCons (eVarS 4) (aCons (eVarS 5) (aCons (eCall F_l_leaf (aCons (eVarS 0) (aCons (eOp dAdd (eVarS 1) (eC (.int 60))) (aCons (eVarS 2) aNil)))) aNil)))))) sSkip) sSkip) (sSeq (sSet [] 7 (eLst (aCons (eC (.str "add")) (aCons (eC (.str "sub")) (aCons (eC (.str "mul")) (aCons (eC (.str "quo")) (aCons (eC (.str "less")) (aCons (eC (.str "same")) (aCons (eC (.str "both")) (aCons (eC (.str "any")) aNil)))))))))) (sSeq (sRet [] (eTup (aCons (eOp dIxA (eVarS 7) (eOp dMod (eOp dDiv (eVarS 3) (eC (.int 8))) (eC (.int 8)))) (aCons (eVarS 4) (aCons (eVarS 5) aNil))))) sSkip)))))))))
noncomputable def F_l_term : List D → Res D := runDef 3 8 b_l_term
/-! field_at -/
abbrev s_field_at : Stmt := top 6
noncomputable def b_field_at : DL.Env → Out := (sSeq (sIf [] (bTest dLt (eVarS 1) (e1 dLen (eVarS 0))) (sSeq (sRet [] (eOp dIxA (eVarS 0) (eVarS 1))) sSkip) sSkip) (sSeq (sRet [] (eC (.int 0))) sSkip))
noncomputable def F_field_at : List D → Res D := runDef 2 2 b_field_at
/-! held -/
abbrev s_held : Stmt := top 2
noncomputable def b_held : DL.Env → Out := (sSeq (sRet [] (eOp dMax (eNeg (eC (.int 1000000000000000000))) (eOp dMin (eC (.int 1000000000000000000)) (eVarS 0)))) sSkip)
noncomputable def F_held : List D → Res D := runDef 1 1 b_held
/-! worked -/
abbrev s_worked : Stmt := top 3
noncomputable def b_worked : DL.Env → Out := (sSeq (sIf [] (bTest dEq (eVarS 0) (eC (.str "add"))) (sSeq (sRet [] (eOp dAdd (eVarS 1) (eVarS 2))) sSkip) sSkip) (sSeq (sIf [] (bTest dEq (eVarS 0) (eC (.str "sub"))) (sSeq (sRet [] (eOp dSub (eVarS 1) (eVarS 2))) sSkip) sSkip) (sSeq (sIf [] (bTest dEq (eVarS 0) (eC (.str "mul"))) (sSeq (sRet [] (eOp dMul (eVarS 1) (eVarS 2))) sSkip) sSkip) (sSeq (sIf [] (bTest dEq (eVarS 2) (eC (.int 0))) (sSeq (sRet [] (eC (.int 0))) sSkip) sSkip) (sSeq (sRet [] (eOp dDiv (eVarS 1) (eVarS 2))) sSkip)))))
noncomputable def F_worked : List D → Res D := runDef 3 3 b_worked
/-! marked -/
abbrev s_marked : Stmt := top 4
noncomputable def b_marked : DL.Env → Out := (sSeq (sIf [] (bTest dEq (eVarS 0) (eC (.str "less"))) (sSeq (sRet [] (eOp dLt (eVarS 1) (eVarS 2))) sSkip) sSkip) (sSeq (sIf [] (bTest dEq (eVarS 0) (eC (.str "same"))) (sSeq (sRet [] (eOp dEq (eVarS 1) (eVarS 2))) sSkip) sSkip) (sSeq (sIf [] (bTest dEq (eVarS 0) (eC (.str "both"))) (sSeq (sRet [] (eAnd (eOp dNe (eVarS 1) (eC (.int 0))) (eOp dNe (eVarS 2) (eC (.int 0))))) sSkip) sSkip) (sSeq (sRet [] (eOr (eOp dNe (eVarS 1) (eC (.int 0))) (eOp dNe (eVarS 2) (eC (.int 0))))) sSkip))))
noncomputable def F_marked : List D → Res D := runDef 3 3 b_marked
/-! reckoned -/
abbrev s_reckoned : Stmt := top 5
noncomputable def b_reckoned : DL.Env → Out := (sSeq (sIf [] (bTest dEq (eVarS 0) (eC (.str "not"))) (sSeq (sRet [] (e1 dInt (eOp dEq (eOp dIx (eVarS 1) (eC (.int 0))) (eC (.int 0))))) sSkip) sSkip) (sSeq (sIf [] (bTest dEq (eVarS 0) (eC (.str "pick"))) (sSeq (sIf [] (bTest dNe (eOp dIx (eVarS 1) (eC (.int 0))) (eC (.int 0))) (sSeq (sRet [] (eOp dIx (eVarS 1) (eC (.int 1)))) sSkip) sSkip) (sSeq (sRet [] (eOp dIx (eVarS 1) (eC (.int 2)))) sSkip)) sSkip) (sSeq (sIf [] (bOr (bTest dEq (eVarS 0) (eC (.str "add"))) (bOr (bTest dEq (eVarS 0) (eC (.str "sub"))) (bOr (bTest dEq (eVarS 0) (eC (.str "mul"))) (bTest dEq (eVarS 0) (eC (.str "quo")))))) (sSeq (sRet [] (eCall F_held (aCons (eCall F_worked (aCons (eVarS 0) (aCons (eOp dIx (eVarS 1) (eC (.int 0))) (aCons (eOp dIx (eVarS 1) (eC (.int 1))) aNil)))) aNil))) sSkip) sSkip) (sSeq (sRet [] (e1 dInt (eCall F_marked (aCons (eVarS 0) (aCons (eOp dIx (eVarS 1) (eC (.int 0))) (aCons (eOp dIx (eVarS 1) (eC (.int 1))) aNil)))))) sSkip))))
noncomputable def F_reckoned : List D → Res D := runDef 2 2 b_reckoned
/-! worth -/
abbrev s_worth : Stmt := top 7
noncomputable def b_worth (G : List D → Res D) : DL.Env → Out := (sSeq (sIf [] (bTest dEq (eOp dIx (eVarS 0) (eC (.int 0))) (eC (.str "num"))) (sSeq (sRet [] (eOp dIx (eVarS 0) (eC (.int 1)))) sSkip) sSkip) (sSeq (sIf [] (bTest dEq (eOp dIx (eVarS 0) (eC (.int 0))) (eC (.str "field"))) (sSeq (sRet [] (eCall F_field_at (aCons (eVarS 1) (aCons (eOp dIx (eVarS 0) (eC (.int 1))) aNil)))) sSkip) sSkip) (sSeq (sIf [] (bTest dEq (eOp dIx (eVarS 0) (eC (.int 0))) (eC (.str "name"))) (sSeq (sRet [] (eGet2 (eVarS 2) (eOp dIx (eVarS 0) (eC (.int 1))) (eC (.int 0)))) sSkip) sSkip) (sSeq (sRet [] (eCall F_reckoned (aCons (eOp dIx (eVarS 0) (eC (.int 0))) (aCons (eComp [3] (.nm 3) (iSeq (eCut (eVarS 0) (oSome (eC (.int 1))) oNone)) bYes (eCall G (aCons (eVarS 3) (aCons (eVarS 1) (aCons (eVarS 2) aNil))))) aNil)))) sSkip))))
noncomputable def R_worth : Nat → List D → Res D
  | 0 => fun _ => .bad
  | j + 1 => runDef 3 4 (b_worth (R_worth j))
noncomputable def F_worth : List D → Res D := R_worth 12
/-! kept_rows -/
abbrev s_kept_rows : Stmt := top 9
noncomputable def b_kept_rows : DL.Env → Out := (sSeq (sRet [] (eComp [3] (.nm 3) (iSeq (eVarS 1)) (bTest dNe (eCall F_worth (aCons (eVarS 0) (aCons (eVarS 3) (aCons (eVarS 2) aNil)))) (eC (.int 0))) (eVarS 3))) sSkip)
noncomputable def F_kept_rows : List D → Res D := runDef 3 4 b_kept_rows
/-! made_rows -/
abbrev s_made_rows : Stmt := top 10
noncomputable def b_made_rows_2 : DL.Env → Out := (sSeq (sMut [] 3 gAppend (aCons (e1 dTuple (eComp [6] (.nm 6) (iSeq (eVarS 5)) bYes (eCall F_worth (aCons (eVarS 6) (aCons (eVarS 4) (aCons (eVarS 2) aNil)))))) aNil)) sSkip)
noncomputable def b_made_rows_1 : DL.Env → Out := (sSeq (sFor [] (.nm 5) (iSeq (eVarS 0)) b_made_rows_2) sSkip)
noncomputable def b_made_rows : DL.Env → Out := (sSeq (sSetF [] 3 (eLst aNil)) (sSeq (sFor [] (.nm 4) (iSeq (eVarS 1)) b_made_rows_1) (sSeq (sRet [3] (eVar 3)) sSkip)))
noncomputable def F_made_rows : List D → Res D := runDef 3 7 b_made_rows
/-! unlike_rows -/
abbrev s_unlike_rows : Stmt := top 11
noncomputable def b_unlike_rows_1 : DL.Env → Out := (sSeq (sIf [] (bOr (bTest dEq (e1 dLen (eVar 1)) (eC (.int 0))) (bTest dNe (eOp dIx (eVar 1) (eNeg (eC (.int 1)))) (eVarS 2))) (sSeq (sMut [] 1 gAppend (aCons (eVarS 2) aNil)) sSkip) sSkip) sSkip)
noncomputable def b_unlike_rows : DL.Env → Out := (sSeq (sSetF [] 1 (eLst aNil)) (sSeq (sFor [] (.nm 2) (iSeq (eVarS 0)) b_unlike_rows_1) (sSeq (sRet [1] (eVar 1)) sSkip)))
noncomputable def F_unlike_rows : List D → Res D := runDef 1 3 b_unlike_rows
/-! capped_rows -/
abbrev s_capped_rows : Stmt := top 12
noncomputable def b_capped_rows_1 : DL.Env → Out := (sSeq (sSet [] 7 (eCall F_worth (aCons (eVarS 0) (aCons (eVarS 6) (aCons (eVarS 3) aNil))))) (sSeq (sPutD [] 4 (eVarS 7) (eOp dAdd (eGet2 (eVar 4) (eVarS 7) (eC (.int 0))) (eC (.int 1)))) (sSeq (sIf [] (bTest dLe (eOp dAt (eVar 4) (eVarS 7)) (eVarS 1)) (sSeq (sMut [] 5 gAppend (aCons (eVarS 6) aNil)) sSkip) sSkip) sSkip)))
noncomputable def b_capped_rows : DL.Env → Out := (sSeq (sSetF [] 4 (eDNew false)) (sSeq (sSetF [] 5 (eLst aNil)) (sSeq (sFor [] (.nm 6) (iSeq (eVarS 2)) b_capped_rows_1) (sSeq (sRet [5] (eVar 5)) sSkip))))
noncomputable def F_capped_rows : List D → Res D := runDef 4 8 b_capped_rows
/-! matched_rows -/
abbrev s_matched_rows : Stmt := top 13
noncomputable def b_matched_rows_2 : DL.Env → Out := (sSeq (sIf [] (bTest dEq (eVarS 7) (eVarS 6)) (sSeq (sMut [] 4 gAppend (aCons (eOp dAdd (eVarS 5) (eVarS 8)) aNil)) sSkip) sSkip) sSkip)
noncomputable def b_matched_rows_1 : DL.Env → Out := (sSeq (sSet [] 6 (eCall F_worth (aCons (eVarS 1) (aCons (eVarS 5) (aCons (eVarS 3) aNil))))) (sSeq (sFor [] (.tp [(.nm 7), (.nm 8)]) (iSeq (eVarS 0)) b_matched_rows_2) sSkip))
noncomputable def b_matched_rows : DL.Env → Out := (sSeq (sSetF [] 4 (eLst aNil)) (sSeq (sFor [] (.nm 5) (iSeq (eVarS 2)) b_matched_rows_1) (sSeq (sRet [4] (eVar 4)) sSkip)))
noncomputable def F_matched_rows : List D → Res D := runDef 4 9 b_matched_rows
/-! heap_of -/
abbrev s_heap_of : Stmt := top 14
noncomputable def b_heap_of (G : List D → Res D) : DL.Env → Out := (sSeq (sSet [] 3 (eOp dIx (eVarS 0) (eC (.int 0)))) (sSeq (sIf [] (bTest dEq (eVarS 3) (eC (.str "all"))) (sSeq (sRet [] (e1 dTuple (eVarS 1))) sSkip) sSkip) (sSeq (sIf [] (bTest dEq (eVarS 3) (eC (.str "both"))) (sSeq (sRet [] (e1 dTuple (e1 dSorted (eOp dAdd (eCall G (aCons (eOp dIx (eVarS 0) (eC (.int 1))) (aCons (eVarS 1) (aCons (eVarS 2) aNil)))) (eCall G (aCons (eOp dIx (eVarS 0) (eC (.int 2))) (aCons (eVarS 1) (aCons (eVarS 2) aNil)))))))) sSkip) sSkip) (sSeq (sSet [] 4 (eCall G (aCons (eOp dIx (eVarS 0) (eNeg (eC (.int 1)))) (aCons (eVarS 1) (aCons (eVarS 2) aNil))))) (sSeq (sIf [] (bTest dEq (eVarS 3) (eC (.str "keep"))) (sSeq (sSet [] 5 (eCall F_kept_rows (aCons (eOp dIx (eVarS 0) (eC (.int 1))) (aCons (eVarS 4) (aCons (eVarS 2) aNil))))) sSkip) (sSeq (sIf [] (bTest dEq (eVarS 3) (eC (.str "rows"))) (sSeq (sSet [] 5 (eCall F_made_rows (aCons (eOp dIx (eVarS 0) (eC (.int 1))) (aCons (eVarS 4) (aCons (eVarS 2) aNil))))) sSkip) (sSeq (sIf [] (bTest dEq (eVarS 3) (eC (.str "unlike"))) (sSeq (sSet [] 5 (eCall F_unlike_rows (aCons (eVarS 4) aNil))) sSkip) (sSeq (sIf [] (bTest dEq (eVarS 3) (eC (.str "cap"))) (sSeq (sSet [] 5 (eCall F_capped_rows (aCons (eOp dIx (eVarS 0) (eC (.int 1))) (aCons (eOp dIx (eVarS 0) (eC (.int 2))) (aCons (eVarS 4) (aCons (eVarS 2) aNil)))))) sSkip) (sSeq (sSet [] 5 (eCall F_matched_rows (aCons (eOp dIx (eVarS 0) (eC (.int 1))) (aCons (eOp dIx (eVarS 0) (eC (.int 2))) (aCons (eVarS 4) (aCons (eVarS 2) aNil)))))) sSkip)) sSkip)) sSkip)) sSkip)) (sSeq (sRet [] (e1 dTuple (e1 dSorted (eVarS 5)))) sSkip))))))
noncomputable def R_heap_of : Nat → List D → Res D
  | 0 => fun _ => .bad
  | j + 1 => runDef 3 6 (b_heap_of (R_heap_of j))
noncomputable def F_heap_of : List D → Res D := R_heap_of 12
/-! _law_good -/
abbrev s_l_good : Stmt := top 23
noncomputable def b_l_good_2 : DL.Env → Out := (sSeq (sIf [] (bOr (bNot (bTruth (e1 isInt (eVarS 3)))) (bTruth (e1 isBool (eVarS 3)))) (sSeq (sRet [] (eC (.bl false))) sSkip) sSkip) sSkip)
noncomputable def b_l_good_1 : DL.Env → Out := (sSeq (sIf [] (bOr (bNot (bTruth (e1 isTup (eVarS 2)))) (bTest dNe (e1 dLen (eVarS 2)) (eVarS 1))) (sSeq (sRet [] (eC (.bl false))) sSkip) sSkip) (sSeq (sFor [] (.nm 3) (iSeq (eVarS 2)) b_l_good_2) sSkip))
noncomputable def b_l_good : DL.Env → Out := (sSeq (sIf [] (bNot (bTruth (e1 isTup (eVarS 0)))) (sSeq (sRet [] (eC (.bl false))) sSkip) sSkip) (sSeq (sFor [] (.nm 2) (iSeq (eVarS 0)) b_l_good_1) (sSeq (sRet [] (eOp dEq (e1 dList (eVarS 0)) (e1 dSorted (eVarS 0)))) sSkip)))
noncomputable def F_l_good : List D → Res D := runDef 2 4 b_l_good
/-! _law_by_worth -/
abbrev s_l_by_worth : Stmt := top 24
noncomputable def b_l_by_worth : DL.Env → Out := (sSeq (sSetF [] 3 (eDNew false)) (sSeq (sGrp 3 (.nm 4) (iSeq (eVarS 0)) (eCall F_worth (aCons (eVarS 1) (aCons (eVarS 4) (aCons (eVarS 2) aNil)))) 4) (sSeq (sRet [3] (eVar 3)) sSkip)))
noncomputable def F_l_by_worth : List D → Res D := runDef 3 5 b_l_by_worth
/-! _law_group_right -/
abbrev s_l_group_right : Stmt := top 25
noncomputable def b_l_group_right_1 : DL.Env → Out := (sSeq (sIf [] (bTest (dInA true) (eVarS 4) (eVar 3)) (sSeq (sRet [] (eC (.bl false))) sSkip) sSkip) (sSeq (sMut [] 3 gRemove (aCons (eVarS 4) aNil)) sSkip))
noncomputable def b_l_group_right : DL.Env → Out := (sSeq (sIf [] (bTest dNe (e1 dLen (eVarS 1)) (eOp dMin (eVarS 2) (e1 dLen (eVarS 0)))) (sSeq (sRet [] (eC (.bl false))) sSkip) sSkip) (sSeq (sSetF [] 3 (e1 dList (eVarS 0))) (sSeq (sFor [] (.nm 4) (iSeq (eVarS 1)) b_l_group_right_1) (sSeq (sIf [] (bOr (bTest dEq (e1 dLen (eVar 3)) (eC (.int 0))) (bTest dEq (e1 dLen (eVarS 1)) (eC (.int 0)))) (sSeq (sRet [] (eC (.bl true))) sSkip) sSkip) (sSeq (sRet [] (eOp dLe (e1 dMaxR (eVarS 1)) (e1 dMinR (eVar 3)))) sSkip)))))
noncomputable def F_l_group_right : List D → Res D := runDef 3 5 b_l_group_right
/-! law -/
abbrev s_law : Stmt := top 26
noncomputable def b_law_1 : DL.Env → Out := (sSeq (sIf [] (bTest (dInA true) (eVarS 10) (eVarS 8)) (sSeq (sRet [] (eC (.bl false))) sSkip) sSkip) sSkip)
noncomputable def b_law_2 : DL.Env → Out := (sSeq (sIf [] (bNot (bTruth (eCall F_l_group_right (aCons (eVarS 11) (aCons (eGet2 (eVarS 9) (eVarS 10) (eLst aNil)) (aCons (eVarS 6) aNil)))))) (sSeq (sRet [] (eC (.bl false))) sSkip) sSkip) sSkip)
noncomputable def b_law : DL.Env → Out := (sSeq (sSet [] 1 (eOp dAdd (eC (.int 1)) (eOp dMod (eCall F_l_cell_at (aCons (eVarS 0) (aCons (eC (.int 0)) aNil))) (eC (.int 4))))) (sSeq (sSet [] 2 (eCall F_l_heap (aCons (eCut (eVarS 0) oNone (oSome (eC (.int 40)))) (aCons (eVarS 1) aNil)))) (sSeq (sSet [] 3 (eCall F_l_names (aCons (eVarS 0) aNil))) (sSeq (sSet [] 4 (eOp dAdd (eCall F_l_cell_at (aCons (eVarS 0) (aCons (eC (.int 2)) aNil))) (e1 dSum (eVarS 0)))) (sSeq (sSet [] 5 (eCall F_l_term (aCons (eVarS 4) (aCons (eC (.int 200)) (aCons (eVarS 1) aNil))))) (sSeq (sSet [] 6 (eOp dAdd (eC (.int 1)) (eOp dMod (eVarS 4) (eC (.int 4))))) (sSeq (sIf [] (bTest dEq (eOp dMod (eOp dDiv (eVarS 4) (eC (.int 4))) (eC (.int 4))) (eC (.int 1))) (sSeq (sSet [] 6 (eOp dAdd (eC (.int 1)) (eOp dMod (eOp dDiv (eVarS 4) (eC (.int 16))) (eC (.int 40))))) sSkip) sSkip) (sSeq (sSet [] 7 (eCall F_heap_of (aCons (eTup (aCons (eC (.str "cap")) (aCons (eVarS 5) (aCons (eVarS 6) (aCons (eTup (aCons (eC (.str "all")) aNil)) aNil))))) (aCons (eVarS 2) (aCons (e1 dDict (eVarS 3)) aNil))))) (sSeq (sIf [] (bNot (bTruth (eCall F_l_good (aCons (eVarS 7) (aCons (eVarS 1) aNil))))) (sSeq (sRet [] (eC (.bl false))) sSkip) sSkip) (sSeq (sSet [] 8 (eCall F_l_by_worth (aCons (eVarS 2) (aCons (eVarS 5) (aCons (eVarS 3) aNil))))) (sSeq (sSet [] 9 (eCall F_l_by_worth (aCons (eVarS 7) (aCons (eVarS 5) (aCons (eVarS 3) aNil))))) (sSeq (sFor [] (.nm 10) (iSeq (e1 dListK (eVarS 9))) b_law_1) (sSeq (sFor [] (.tp [(.nm 10), (.nm 11)]) (iItemsD (eVarS 8)) b_law_2) (sSeq (sRet [] (eC (.bl true))) sSkip))))))))))))))
noncomputable def F_law : List D → Res D := runDef 1 12 b_law
@[simp] theorem strok_0 : PyData.strOk "a" = true := by decide +kernel
@[simp] theorem strok_1 : PyData.strOk "b" = true := by decide +kernel
@[simp] theorem strok_2 : PyData.strOk "field" = true := by decide +kernel
@[simp] theorem strok_3 : PyData.strOk "num" = true := by decide +kernel
@[simp] theorem strok_4 : PyData.strOk "name" = true := by decide +kernel
@[simp] theorem strok_5 : PyData.strOk "c" = true := by decide +kernel
@[simp] theorem strok_6 : PyData.strOk "add" = true := by decide +kernel
@[simp] theorem strok_7 : PyData.strOk "sub" = true := by decide +kernel
@[simp] theorem strok_8 : PyData.strOk "mul" = true := by decide +kernel
@[simp] theorem strok_9 : PyData.strOk "quo" = true := by decide +kernel
@[simp] theorem strok_10 : PyData.strOk "less" = true := by decide +kernel
@[simp] theorem strok_11 : PyData.strOk "same" = true := by decide +kernel
@[simp] theorem strok_12 : PyData.strOk "both" = true := by decide +kernel
@[simp] theorem strok_13 : PyData.strOk "any" = true := by decide +kernel
@[simp] theorem strok_14 : PyData.strOk "not" = true := by decide +kernel
@[simp] theorem strok_15 : PyData.strOk "pick" = true := by decide +kernel
@[simp] theorem strok_16 : PyData.strOk "all" = true := by decide +kernel
@[simp] theorem strok_17 : PyData.strOk "keep" = true := by decide +kernel
@[simp] theorem strok_18 : PyData.strOk "rows" = true := by decide +kernel
@[simp] theorem strok_19 : PyData.strOk "unlike" = true := by decide +kernel
@[simp] theorem strok_20 : PyData.strOk "cap" = true := by decide +kernel
@[simp] theorem str_0_1 : (Str.ofString "a" = Str.ofString "b") = False := nF
@[simp] theorem str_0_2 : (Str.ofString "a" = Str.ofString "field") = False := nF
@[simp] theorem str_0_3 : (Str.ofString "a" = Str.ofString "num") = False := nF
@[simp] theorem str_0_4 : (Str.ofString "a" = Str.ofString "name") = False := nF
@[simp] theorem str_0_5 : (Str.ofString "a" = Str.ofString "c") = False := nF
@[simp] theorem str_0_6 : (Str.ofString "a" = Str.ofString "add") = False := nF
@[simp] theorem str_0_7 : (Str.ofString "a" = Str.ofString "sub") = False := nF
@[simp] theorem str_0_8 : (Str.ofString "a" = Str.ofString "mul") = False := nF
@[simp] theorem str_0_9 : (Str.ofString "a" = Str.ofString "quo") = False := nF
@[simp] theorem str_0_10 : (Str.ofString "a" = Str.ofString "less") = False := nF
@[simp] theorem str_0_11 : (Str.ofString "a" = Str.ofString "same") = False := nF
@[simp] theorem str_0_12 : (Str.ofString "a" = Str.ofString "both") = False := nF
@[simp] theorem str_0_13 : (Str.ofString "a" = Str.ofString "any") = False := nF
@[simp] theorem str_0_14 : (Str.ofString "a" = Str.ofString "not") = False := nF
@[simp] theorem str_0_15 : (Str.ofString "a" = Str.ofString "pick") = False := nF
@[simp] theorem str_0_16 : (Str.ofString "a" = Str.ofString "all") = False := nF
@[simp] theorem str_0_17 : (Str.ofString "a" = Str.ofString "keep") = False := nF
@[simp] theorem str_0_18 : (Str.ofString "a" = Str.ofString "rows") = False := nF
@[simp] theorem str_0_19 : (Str.ofString "a" = Str.ofString "unlike") = False := nF
@[simp] theorem str_0_20 : (Str.ofString "a" = Str.ofString "cap") = False := nF
@[simp] theorem str_1_0 : (Str.ofString "b" = Str.ofString "a") = False := nF
@[simp] theorem str_1_2 : (Str.ofString "b" = Str.ofString "field") = False := nF
@[simp] theorem str_1_3 : (Str.ofString "b" = Str.ofString "num") = False := nF
@[simp] theorem str_1_4 : (Str.ofString "b" = Str.ofString "name") = False := nF
@[simp] theorem str_1_5 : (Str.ofString "b" = Str.ofString "c") = False := nF
@[simp] theorem str_1_6 : (Str.ofString "b" = Str.ofString "add") = False := nF
@[simp] theorem str_1_7 : (Str.ofString "b" = Str.ofString "sub") = False := nF
@[simp] theorem str_1_8 : (Str.ofString "b" = Str.ofString "mul") = False := nF
@[simp] theorem str_1_9 : (Str.ofString "b" = Str.ofString "quo") = False := nF
@[simp] theorem str_1_10 : (Str.ofString "b" = Str.ofString "less") = False := nF
@[simp] theorem str_1_11 : (Str.ofString "b" = Str.ofString "same") = False := nF
@[simp] theorem str_1_12 : (Str.ofString "b" = Str.ofString "both") = False := nF
@[simp] theorem str_1_13 : (Str.ofString "b" = Str.ofString "any") = False := nF
@[simp] theorem str_1_14 : (Str.ofString "b" = Str.ofString "not") = False := nF
@[simp] theorem str_1_15 : (Str.ofString "b" = Str.ofString "pick") = False := nF
@[simp] theorem str_1_16 : (Str.ofString "b" = Str.ofString "all") = False := nF
@[simp] theorem str_1_17 : (Str.ofString "b" = Str.ofString "keep") = False := nF
@[simp] theorem str_1_18 : (Str.ofString "b" = Str.ofString "rows") = False := nF
@[simp] theorem str_1_19 : (Str.ofString "b" = Str.ofString "unlike") = False := nF
@[simp] theorem str_1_20 : (Str.ofString "b" = Str.ofString "cap") = False := nF
@[simp] theorem str_2_0 : (Str.ofString "field" = Str.ofString "a") = False := nF
@[simp] theorem str_2_1 : (Str.ofString "field" = Str.ofString "b") = False := nF
@[simp] theorem str_2_3 : (Str.ofString "field" = Str.ofString "num") = False := nF
@[simp] theorem str_2_4 : (Str.ofString "field" = Str.ofString "name") = False := nF
@[simp] theorem str_2_5 : (Str.ofString "field" = Str.ofString "c") = False := nF
@[simp] theorem str_2_6 : (Str.ofString "field" = Str.ofString "add") = False := nF
@[simp] theorem str_2_7 : (Str.ofString "field" = Str.ofString "sub") = False := nF
@[simp] theorem str_2_8 : (Str.ofString "field" = Str.ofString "mul") = False := nF
@[simp] theorem str_2_9 : (Str.ofString "field" = Str.ofString "quo") = False := nF
@[simp] theorem str_2_10 : (Str.ofString "field" = Str.ofString "less") = False := nF
@[simp] theorem str_2_11 : (Str.ofString "field" = Str.ofString "same") = False := nF
@[simp] theorem str_2_12 : (Str.ofString "field" = Str.ofString "both") = False := nF
@[simp] theorem str_2_13 : (Str.ofString "field" = Str.ofString "any") = False := nF
@[simp] theorem str_2_14 : (Str.ofString "field" = Str.ofString "not") = False := nF
@[simp] theorem str_2_15 : (Str.ofString "field" = Str.ofString "pick") = False := nF
@[simp] theorem str_2_16 : (Str.ofString "field" = Str.ofString "all") = False := nF
@[simp] theorem str_2_17 : (Str.ofString "field" = Str.ofString "keep") = False := nF
@[simp] theorem str_2_18 : (Str.ofString "field" = Str.ofString "rows") = False := nF
@[simp] theorem str_2_19 : (Str.ofString "field" = Str.ofString "unlike") = False := nF
@[simp] theorem str_2_20 : (Str.ofString "field" = Str.ofString "cap") = False := nF
@[simp] theorem str_3_0 : (Str.ofString "num" = Str.ofString "a") = False := nF
@[simp] theorem str_3_1 : (Str.ofString "num" = Str.ofString "b") = False := nF
@[simp] theorem str_3_2 : (Str.ofString "num" = Str.ofString "field") = False := nF
@[simp] theorem str_3_4 : (Str.ofString "num" = Str.ofString "name") = False := nF
@[simp] theorem str_3_5 : (Str.ofString "num" = Str.ofString "c") = False := nF
@[simp] theorem str_3_6 : (Str.ofString "num" = Str.ofString "add") = False := nF
@[simp] theorem str_3_7 : (Str.ofString "num" = Str.ofString "sub") = False := nF
@[simp] theorem str_3_8 : (Str.ofString "num" = Str.ofString "mul") = False := nF
@[simp] theorem str_3_9 : (Str.ofString "num" = Str.ofString "quo") = False := nF
@[simp] theorem str_3_10 : (Str.ofString "num" = Str.ofString "less") = False := nF
@[simp] theorem str_3_11 : (Str.ofString "num" = Str.ofString "same") = False := nF
@[simp] theorem str_3_12 : (Str.ofString "num" = Str.ofString "both") = False := nF
@[simp] theorem str_3_13 : (Str.ofString "num" = Str.ofString "any") = False := nF
@[simp] theorem str_3_14 : (Str.ofString "num" = Str.ofString "not") = False := nF
@[simp] theorem str_3_15 : (Str.ofString "num" = Str.ofString "pick") = False := nF
@[simp] theorem str_3_16 : (Str.ofString "num" = Str.ofString "all") = False := nF
@[simp] theorem str_3_17 : (Str.ofString "num" = Str.ofString "keep") = False := nF
@[simp] theorem str_3_18 : (Str.ofString "num" = Str.ofString "rows") = False := nF
@[simp] theorem str_3_19 : (Str.ofString "num" = Str.ofString "unlike") = False := nF
@[simp] theorem str_3_20 : (Str.ofString "num" = Str.ofString "cap") = False := nF
@[simp] theorem str_4_0 : (Str.ofString "name" = Str.ofString "a") = False := nF
@[simp] theorem str_4_1 : (Str.ofString "name" = Str.ofString "b") = False := nF
@[simp] theorem str_4_2 : (Str.ofString "name" = Str.ofString "field") = False := nF
@[simp] theorem str_4_3 : (Str.ofString "name" = Str.ofString "num") = False := nF
@[simp] theorem str_4_5 : (Str.ofString "name" = Str.ofString "c") = False := nF
@[simp] theorem str_4_6 : (Str.ofString "name" = Str.ofString "add") = False := nF
@[simp] theorem str_4_7 : (Str.ofString "name" = Str.ofString "sub") = False := nF
@[simp] theorem str_4_8 : (Str.ofString "name" = Str.ofString "mul") = False := nF
@[simp] theorem str_4_9 : (Str.ofString "name" = Str.ofString "quo") = False := nF
@[simp] theorem str_4_10 : (Str.ofString "name" = Str.ofString "less") = False := nF
@[simp] theorem str_4_11 : (Str.ofString "name" = Str.ofString "same") = False := nF
@[simp] theorem str_4_12 : (Str.ofString "name" = Str.ofString "both") = False := nF
@[simp] theorem str_4_13 : (Str.ofString "name" = Str.ofString "any") = False := nF
@[simp] theorem str_4_14 : (Str.ofString "name" = Str.ofString "not") = False := nF
@[simp] theorem str_4_15 : (Str.ofString "name" = Str.ofString "pick") = False := nF
@[simp] theorem str_4_16 : (Str.ofString "name" = Str.ofString "all") = False := nF
@[simp] theorem str_4_17 : (Str.ofString "name" = Str.ofString "keep") = False := nF
@[simp] theorem str_4_18 : (Str.ofString "name" = Str.ofString "rows") = False := nF
@[simp] theorem str_4_19 : (Str.ofString "name" = Str.ofString "unlike") = False := nF
@[simp] theorem str_4_20 : (Str.ofString "name" = Str.ofString "cap") = False := nF
@[simp] theorem str_5_0 : (Str.ofString "c" = Str.ofString "a") = False := nF
@[simp] theorem str_5_1 : (Str.ofString "c" = Str.ofString "b") = False := nF
@[simp] theorem str_5_2 : (Str.ofString "c" = Str.ofString "field") = False := nF
@[simp] theorem str_5_3 : (Str.ofString "c" = Str.ofString "num") = False := nF
@[simp] theorem str_5_4 : (Str.ofString "c" = Str.ofString "name") = False := nF
@[simp] theorem str_5_6 : (Str.ofString "c" = Str.ofString "add") = False := nF
@[simp] theorem str_5_7 : (Str.ofString "c" = Str.ofString "sub") = False := nF
@[simp] theorem str_5_8 : (Str.ofString "c" = Str.ofString "mul") = False := nF
@[simp] theorem str_5_9 : (Str.ofString "c" = Str.ofString "quo") = False := nF
@[simp] theorem str_5_10 : (Str.ofString "c" = Str.ofString "less") = False := nF
@[simp] theorem str_5_11 : (Str.ofString "c" = Str.ofString "same") = False := nF
@[simp] theorem str_5_12 : (Str.ofString "c" = Str.ofString "both") = False := nF
@[simp] theorem str_5_13 : (Str.ofString "c" = Str.ofString "any") = False := nF
@[simp] theorem str_5_14 : (Str.ofString "c" = Str.ofString "not") = False := nF
@[simp] theorem str_5_15 : (Str.ofString "c" = Str.ofString "pick") = False := nF
@[simp] theorem str_5_16 : (Str.ofString "c" = Str.ofString "all") = False := nF
@[simp] theorem str_5_17 : (Str.ofString "c" = Str.ofString "keep") = False := nF
@[simp] theorem str_5_18 : (Str.ofString "c" = Str.ofString "rows") = False := nF
@[simp] theorem str_5_19 : (Str.ofString "c" = Str.ofString "unlike") = False := nF
@[simp] theorem str_5_20 : (Str.ofString "c" = Str.ofString "cap") = False := nF
@[simp] theorem str_6_0 : (Str.ofString "add" = Str.ofString "a") = False := nF
@[simp] theorem str_6_1 : (Str.ofString "add" = Str.ofString "b") = False := nF
@[simp] theorem str_6_2 : (Str.ofString "add" = Str.ofString "field") = False := nF
@[simp] theorem str_6_3 : (Str.ofString "add" = Str.ofString "num") = False := nF
@[simp] theorem str_6_4 : (Str.ofString "add" = Str.ofString "name") = False := nF
@[simp] theorem str_6_5 : (Str.ofString "add" = Str.ofString "c") = False := nF
@[simp] theorem str_6_7 : (Str.ofString "add" = Str.ofString "sub") = False := nF
@[simp] theorem str_6_8 : (Str.ofString "add" = Str.ofString "mul") = False := nF
@[simp] theorem str_6_9 : (Str.ofString "add" = Str.ofString "quo") = False := nF
@[simp] theorem str_6_10 : (Str.ofString "add" = Str.ofString "less") = False := nF
@[simp] theorem str_6_11 : (Str.ofString "add" = Str.ofString "same") = False := nF
@[simp] theorem str_6_12 : (Str.ofString "add" = Str.ofString "both") = False := nF
@[simp] theorem str_6_13 : (Str.ofString "add" = Str.ofString "any") = False := nF
@[simp] theorem str_6_14 : (Str.ofString "add" = Str.ofString "not") = False := nF
@[simp] theorem str_6_15 : (Str.ofString "add" = Str.ofString "pick") = False := nF
@[simp] theorem str_6_16 : (Str.ofString "add" = Str.ofString "all") = False := nF
@[simp] theorem str_6_17 : (Str.ofString "add" = Str.ofString "keep") = False := nF
@[simp] theorem str_6_18 : (Str.ofString "add" = Str.ofString "rows") = False := nF
@[simp] theorem str_6_19 : (Str.ofString "add" = Str.ofString "unlike") = False := nF
@[simp] theorem str_6_20 : (Str.ofString "add" = Str.ofString "cap") = False := nF
@[simp] theorem str_7_0 : (Str.ofString "sub" = Str.ofString "a") = False := nF
@[simp] theorem str_7_1 : (Str.ofString "sub" = Str.ofString "b") = False := nF
@[simp] theorem str_7_2 : (Str.ofString "sub" = Str.ofString "field") = False := nF
@[simp] theorem str_7_3 : (Str.ofString "sub" = Str.ofString "num") = False := nF
@[simp] theorem str_7_4 : (Str.ofString "sub" = Str.ofString "name") = False := nF
@[simp] theorem str_7_5 : (Str.ofString "sub" = Str.ofString "c") = False := nF
@[simp] theorem str_7_6 : (Str.ofString "sub" = Str.ofString "add") = False := nF
@[simp] theorem str_7_8 : (Str.ofString "sub" = Str.ofString "mul") = False := nF
@[simp] theorem str_7_9 : (Str.ofString "sub" = Str.ofString "quo") = False := nF
@[simp] theorem str_7_10 : (Str.ofString "sub" = Str.ofString "less") = False := nF
@[simp] theorem str_7_11 : (Str.ofString "sub" = Str.ofString "same") = False := nF
@[simp] theorem str_7_12 : (Str.ofString "sub" = Str.ofString "both") = False := nF
@[simp] theorem str_7_13 : (Str.ofString "sub" = Str.ofString "any") = False := nF
@[simp] theorem str_7_14 : (Str.ofString "sub" = Str.ofString "not") = False := nF
@[simp] theorem str_7_15 : (Str.ofString "sub" = Str.ofString "pick") = False := nF
@[simp] theorem str_7_16 : (Str.ofString "sub" = Str.ofString "all") = False := nF
@[simp] theorem str_7_17 : (Str.ofString "sub" = Str.ofString "keep") = False := nF
@[simp] theorem str_7_18 : (Str.ofString "sub" = Str.ofString "rows") = False := nF
@[simp] theorem str_7_19 : (Str.ofString "sub" = Str.ofString "unlike") = False := nF
@[simp] theorem str_7_20 : (Str.ofString "sub" = Str.ofString "cap") = False := nF
@[simp] theorem str_8_0 : (Str.ofString "mul" = Str.ofString "a") = False := nF
@[simp] theorem str_8_1 : (Str.ofString "mul" = Str.ofString "b") = False := nF
@[simp] theorem str_8_2 : (Str.ofString "mul" = Str.ofString "field") = False := nF
@[simp] theorem str_8_3 : (Str.ofString "mul" = Str.ofString "num") = False := nF
@[simp] theorem str_8_4 : (Str.ofString "mul" = Str.ofString "name") = False := nF
@[simp] theorem str_8_5 : (Str.ofString "mul" = Str.ofString "c") = False := nF
@[simp] theorem str_8_6 : (Str.ofString "mul" = Str.ofString "add") = False := nF
@[simp] theorem str_8_7 : (Str.ofString "mul" = Str.ofString "sub") = False := nF
@[simp] theorem str_8_9 : (Str.ofString "mul" = Str.ofString "quo") = False := nF
@[simp] theorem str_8_10 : (Str.ofString "mul" = Str.ofString "less") = False := nF
@[simp] theorem str_8_11 : (Str.ofString "mul" = Str.ofString "same") = False := nF
@[simp] theorem str_8_12 : (Str.ofString "mul" = Str.ofString "both") = False := nF
@[simp] theorem str_8_13 : (Str.ofString "mul" = Str.ofString "any") = False := nF
@[simp] theorem str_8_14 : (Str.ofString "mul" = Str.ofString "not") = False := nF
@[simp] theorem str_8_15 : (Str.ofString "mul" = Str.ofString "pick") = False := nF
@[simp] theorem str_8_16 : (Str.ofString "mul" = Str.ofString "all") = False := nF
@[simp] theorem str_8_17 : (Str.ofString "mul" = Str.ofString "keep") = False := nF
@[simp] theorem str_8_18 : (Str.ofString "mul" = Str.ofString "rows") = False := nF
@[simp] theorem str_8_19 : (Str.ofString "mul" = Str.ofString "unlike") = False := nF
@[simp] theorem str_8_20 : (Str.ofString "mul" = Str.ofString "cap") = False := nF
@[simp] theorem str_9_0 : (Str.ofString "quo" = Str.ofString "a") = False := nF
@[simp] theorem str_9_1 : (Str.ofString "quo" = Str.ofString "b") = False := nF
@[simp] theorem str_9_2 : (Str.ofString "quo" = Str.ofString "field") = False := nF
@[simp] theorem str_9_3 : (Str.ofString "quo" = Str.ofString "num") = False := nF
@[simp] theorem str_9_4 : (Str.ofString "quo" = Str.ofString "name") = False := nF
@[simp] theorem str_9_5 : (Str.ofString "quo" = Str.ofString "c") = False := nF
@[simp] theorem str_9_6 : (Str.ofString "quo" = Str.ofString "add") = False := nF
@[simp] theorem str_9_7 : (Str.ofString "quo" = Str.ofString "sub") = False := nF
@[simp] theorem str_9_8 : (Str.ofString "quo" = Str.ofString "mul") = False := nF
@[simp] theorem str_9_10 : (Str.ofString "quo" = Str.ofString "less") = False := nF
@[simp] theorem str_9_11 : (Str.ofString "quo" = Str.ofString "same") = False := nF
@[simp] theorem str_9_12 : (Str.ofString "quo" = Str.ofString "both") = False := nF
@[simp] theorem str_9_13 : (Str.ofString "quo" = Str.ofString "any") = False := nF
@[simp] theorem str_9_14 : (Str.ofString "quo" = Str.ofString "not") = False := nF
@[simp] theorem str_9_15 : (Str.ofString "quo" = Str.ofString "pick") = False := nF
@[simp] theorem str_9_16 : (Str.ofString "quo" = Str.ofString "all") = False := nF
@[simp] theorem str_9_17 : (Str.ofString "quo" = Str.ofString "keep") = False := nF
@[simp] theorem str_9_18 : (Str.ofString "quo" = Str.ofString "rows") = False := nF
@[simp] theorem str_9_19 : (Str.ofString "quo" = Str.ofString "unlike") = False := nF
@[simp] theorem str_9_20 : (Str.ofString "quo" = Str.ofString "cap") = False := nF
@[simp] theorem str_10_0 : (Str.ofString "less" = Str.ofString "a") = False := nF
@[simp] theorem str_10_1 : (Str.ofString "less" = Str.ofString "b") = False := nF
@[simp] theorem str_10_2 : (Str.ofString "less" = Str.ofString "field") = False := nF
@[simp] theorem str_10_3 : (Str.ofString "less" = Str.ofString "num") = False := nF
@[simp] theorem str_10_4 : (Str.ofString "less" = Str.ofString "name") = False := nF
@[simp] theorem str_10_5 : (Str.ofString "less" = Str.ofString "c") = False := nF
@[simp] theorem str_10_6 : (Str.ofString "less" = Str.ofString "add") = False := nF
@[simp] theorem str_10_7 : (Str.ofString "less" = Str.ofString "sub") = False := nF
@[simp] theorem str_10_8 : (Str.ofString "less" = Str.ofString "mul") = False := nF
@[simp] theorem str_10_9 : (Str.ofString "less" = Str.ofString "quo") = False := nF
@[simp] theorem str_10_11 : (Str.ofString "less" = Str.ofString "same") = False := nF
@[simp] theorem str_10_12 : (Str.ofString "less" = Str.ofString "both") = False := nF
@[simp] theorem str_10_13 : (Str.ofString "less" = Str.ofString "any") = False := nF
@[simp] theorem str_10_14 : (Str.ofString "less" = Str.ofString "not") = False := nF
@[simp] theorem str_10_15 : (Str.ofString "less" = Str.ofString "pick") = False := nF
@[simp] theorem str_10_16 : (Str.ofString "less" = Str.ofString "all") = False := nF
@[simp] theorem str_10_17 : (Str.ofString "less" = Str.ofString "keep") = False := nF
@[simp] theorem str_10_18 : (Str.ofString "less" = Str.ofString "rows") = False := nF
@[simp] theorem str_10_19 : (Str.ofString "less" = Str.ofString "unlike") = False := nF
@[simp] theorem str_10_20 : (Str.ofString "less" = Str.ofString "cap") = False := nF
@[simp] theorem str_11_0 : (Str.ofString "same" = Str.ofString "a") = False := nF
@[simp] theorem str_11_1 : (Str.ofString "same" = Str.ofString "b") = False := nF
@[simp] theorem str_11_2 : (Str.ofString "same" = Str.ofString "field") = False := nF
@[simp] theorem str_11_3 : (Str.ofString "same" = Str.ofString "num") = False := nF
@[simp] theorem str_11_4 : (Str.ofString "same" = Str.ofString "name") = False := nF
@[simp] theorem str_11_5 : (Str.ofString "same" = Str.ofString "c") = False := nF
@[simp] theorem str_11_6 : (Str.ofString "same" = Str.ofString "add") = False := nF
@[simp] theorem str_11_7 : (Str.ofString "same" = Str.ofString "sub") = False := nF
@[simp] theorem str_11_8 : (Str.ofString "same" = Str.ofString "mul") = False := nF
@[simp] theorem str_11_9 : (Str.ofString "same" = Str.ofString "quo") = False := nF
@[simp] theorem str_11_10 : (Str.ofString "same" = Str.ofString "less") = False := nF
@[simp] theorem str_11_12 : (Str.ofString "same" = Str.ofString "both") = False := nF
@[simp] theorem str_11_13 : (Str.ofString "same" = Str.ofString "any") = False := nF
@[simp] theorem str_11_14 : (Str.ofString "same" = Str.ofString "not") = False := nF
@[simp] theorem str_11_15 : (Str.ofString "same" = Str.ofString "pick") = False := nF
@[simp] theorem str_11_16 : (Str.ofString "same" = Str.ofString "all") = False := nF
@[simp] theorem str_11_17 : (Str.ofString "same" = Str.ofString "keep") = False := nF
@[simp] theorem str_11_18 : (Str.ofString "same" = Str.ofString "rows") = False := nF
@[simp] theorem str_11_19 : (Str.ofString "same" = Str.ofString "unlike") = False := nF
@[simp] theorem str_11_20 : (Str.ofString "same" = Str.ofString "cap") = False := nF
@[simp] theorem str_12_0 : (Str.ofString "both" = Str.ofString "a") = False := nF
@[simp] theorem str_12_1 : (Str.ofString "both" = Str.ofString "b") = False := nF
@[simp] theorem str_12_2 : (Str.ofString "both" = Str.ofString "field") = False := nF
@[simp] theorem str_12_3 : (Str.ofString "both" = Str.ofString "num") = False := nF
@[simp] theorem str_12_4 : (Str.ofString "both" = Str.ofString "name") = False := nF
@[simp] theorem str_12_5 : (Str.ofString "both" = Str.ofString "c") = False := nF
@[simp] theorem str_12_6 : (Str.ofString "both" = Str.ofString "add") = False := nF
@[simp] theorem str_12_7 : (Str.ofString "both" = Str.ofString "sub") = False := nF
@[simp] theorem str_12_8 : (Str.ofString "both" = Str.ofString "mul") = False := nF
@[simp] theorem str_12_9 : (Str.ofString "both" = Str.ofString "quo") = False := nF
@[simp] theorem str_12_10 : (Str.ofString "both" = Str.ofString "less") = False := nF
@[simp] theorem str_12_11 : (Str.ofString "both" = Str.ofString "same") = False := nF
@[simp] theorem str_12_13 : (Str.ofString "both" = Str.ofString "any") = False := nF
@[simp] theorem str_12_14 : (Str.ofString "both" = Str.ofString "not") = False := nF
@[simp] theorem str_12_15 : (Str.ofString "both" = Str.ofString "pick") = False := nF
@[simp] theorem str_12_16 : (Str.ofString "both" = Str.ofString "all") = False := nF
@[simp] theorem str_12_17 : (Str.ofString "both" = Str.ofString "keep") = False := nF
@[simp] theorem str_12_18 : (Str.ofString "both" = Str.ofString "rows") = False := nF
@[simp] theorem str_12_19 : (Str.ofString "both" = Str.ofString "unlike") = False := nF
@[simp] theorem str_12_20 : (Str.ofString "both" = Str.ofString "cap") = False := nF
@[simp] theorem str_13_0 : (Str.ofString "any" = Str.ofString "a") = False := nF
@[simp] theorem str_13_1 : (Str.ofString "any" = Str.ofString "b") = False := nF
@[simp] theorem str_13_2 : (Str.ofString "any" = Str.ofString "field") = False := nF
@[simp] theorem str_13_3 : (Str.ofString "any" = Str.ofString "num") = False := nF
@[simp] theorem str_13_4 : (Str.ofString "any" = Str.ofString "name") = False := nF
@[simp] theorem str_13_5 : (Str.ofString "any" = Str.ofString "c") = False := nF
@[simp] theorem str_13_6 : (Str.ofString "any" = Str.ofString "add") = False := nF
@[simp] theorem str_13_7 : (Str.ofString "any" = Str.ofString "sub") = False := nF
@[simp] theorem str_13_8 : (Str.ofString "any" = Str.ofString "mul") = False := nF
@[simp] theorem str_13_9 : (Str.ofString "any" = Str.ofString "quo") = False := nF
@[simp] theorem str_13_10 : (Str.ofString "any" = Str.ofString "less") = False := nF
@[simp] theorem str_13_11 : (Str.ofString "any" = Str.ofString "same") = False := nF
@[simp] theorem str_13_12 : (Str.ofString "any" = Str.ofString "both") = False := nF
@[simp] theorem str_13_14 : (Str.ofString "any" = Str.ofString "not") = False := nF
@[simp] theorem str_13_15 : (Str.ofString "any" = Str.ofString "pick") = False := nF
@[simp] theorem str_13_16 : (Str.ofString "any" = Str.ofString "all") = False := nF
@[simp] theorem str_13_17 : (Str.ofString "any" = Str.ofString "keep") = False := nF
@[simp] theorem str_13_18 : (Str.ofString "any" = Str.ofString "rows") = False := nF
@[simp] theorem str_13_19 : (Str.ofString "any" = Str.ofString "unlike") = False := nF
@[simp] theorem str_13_20 : (Str.ofString "any" = Str.ofString "cap") = False := nF
@[simp] theorem str_14_0 : (Str.ofString "not" = Str.ofString "a") = False := nF
@[simp] theorem str_14_1 : (Str.ofString "not" = Str.ofString "b") = False := nF
@[simp] theorem str_14_2 : (Str.ofString "not" = Str.ofString "field") = False := nF
@[simp] theorem str_14_3 : (Str.ofString "not" = Str.ofString "num") = False := nF
@[simp] theorem str_14_4 : (Str.ofString "not" = Str.ofString "name") = False := nF
@[simp] theorem str_14_5 : (Str.ofString "not" = Str.ofString "c") = False := nF
@[simp] theorem str_14_6 : (Str.ofString "not" = Str.ofString "add") = False := nF
@[simp] theorem str_14_7 : (Str.ofString "not" = Str.ofString "sub") = False := nF
@[simp] theorem str_14_8 : (Str.ofString "not" = Str.ofString "mul") = False := nF
@[simp] theorem str_14_9 : (Str.ofString "not" = Str.ofString "quo") = False := nF
@[simp] theorem str_14_10 : (Str.ofString "not" = Str.ofString "less") = False := nF
@[simp] theorem str_14_11 : (Str.ofString "not" = Str.ofString "same") = False := nF
@[simp] theorem str_14_12 : (Str.ofString "not" = Str.ofString "both") = False := nF
@[simp] theorem str_14_13 : (Str.ofString "not" = Str.ofString "any") = False := nF
@[simp] theorem str_14_15 : (Str.ofString "not" = Str.ofString "pick") = False := nF
@[simp] theorem str_14_16 : (Str.ofString "not" = Str.ofString "all") = False := nF
@[simp] theorem str_14_17 : (Str.ofString "not" = Str.ofString "keep") = False := nF
@[simp] theorem str_14_18 : (Str.ofString "not" = Str.ofString "rows") = False := nF
@[simp] theorem str_14_19 : (Str.ofString "not" = Str.ofString "unlike") = False := nF
@[simp] theorem str_14_20 : (Str.ofString "not" = Str.ofString "cap") = False := nF
@[simp] theorem str_15_0 : (Str.ofString "pick" = Str.ofString "a") = False := nF
@[simp] theorem str_15_1 : (Str.ofString "pick" = Str.ofString "b") = False := nF
@[simp] theorem str_15_2 : (Str.ofString "pick" = Str.ofString "field") = False := nF
@[simp] theorem str_15_3 : (Str.ofString "pick" = Str.ofString "num") = False := nF
@[simp] theorem str_15_4 : (Str.ofString "pick" = Str.ofString "name") = False := nF
@[simp] theorem str_15_5 : (Str.ofString "pick" = Str.ofString "c") = False := nF
@[simp] theorem str_15_6 : (Str.ofString "pick" = Str.ofString "add") = False := nF
@[simp] theorem str_15_7 : (Str.ofString "pick" = Str.ofString "sub") = False := nF
@[simp] theorem str_15_8 : (Str.ofString "pick" = Str.ofString "mul") = False := nF
@[simp] theorem str_15_9 : (Str.ofString "pick" = Str.ofString "quo") = False := nF
@[simp] theorem str_15_10 : (Str.ofString "pick" = Str.ofString "less") = False := nF
@[simp] theorem str_15_11 : (Str.ofString "pick" = Str.ofString "same") = False := nF
@[simp] theorem str_15_12 : (Str.ofString "pick" = Str.ofString "both") = False := nF
@[simp] theorem str_15_13 : (Str.ofString "pick" = Str.ofString "any") = False := nF
@[simp] theorem str_15_14 : (Str.ofString "pick" = Str.ofString "not") = False := nF
@[simp] theorem str_15_16 : (Str.ofString "pick" = Str.ofString "all") = False := nF
@[simp] theorem str_15_17 : (Str.ofString "pick" = Str.ofString "keep") = False := nF
@[simp] theorem str_15_18 : (Str.ofString "pick" = Str.ofString "rows") = False := nF
@[simp] theorem str_15_19 : (Str.ofString "pick" = Str.ofString "unlike") = False := nF
@[simp] theorem str_15_20 : (Str.ofString "pick" = Str.ofString "cap") = False := nF
@[simp] theorem str_16_0 : (Str.ofString "all" = Str.ofString "a") = False := nF
@[simp] theorem str_16_1 : (Str.ofString "all" = Str.ofString "b") = False := nF
@[simp] theorem str_16_2 : (Str.ofString "all" = Str.ofString "field") = False := nF
@[simp] theorem str_16_3 : (Str.ofString "all" = Str.ofString "num") = False := nF
@[simp] theorem str_16_4 : (Str.ofString "all" = Str.ofString "name") = False := nF
@[simp] theorem str_16_5 : (Str.ofString "all" = Str.ofString "c") = False := nF
@[simp] theorem str_16_6 : (Str.ofString "all" = Str.ofString "add") = False := nF
@[simp] theorem str_16_7 : (Str.ofString "all" = Str.ofString "sub") = False := nF
@[simp] theorem str_16_8 : (Str.ofString "all" = Str.ofString "mul") = False := nF
@[simp] theorem str_16_9 : (Str.ofString "all" = Str.ofString "quo") = False := nF
@[simp] theorem str_16_10 : (Str.ofString "all" = Str.ofString "less") = False := nF
@[simp] theorem str_16_11 : (Str.ofString "all" = Str.ofString "same") = False := nF
@[simp] theorem str_16_12 : (Str.ofString "all" = Str.ofString "both") = False := nF
@[simp] theorem str_16_13 : (Str.ofString "all" = Str.ofString "any") = False := nF
@[simp] theorem str_16_14 : (Str.ofString "all" = Str.ofString "not") = False := nF
@[simp] theorem str_16_15 : (Str.ofString "all" = Str.ofString "pick") = False := nF
@[simp] theorem str_16_17 : (Str.ofString "all" = Str.ofString "keep") = False := nF
@[simp] theorem str_16_18 : (Str.ofString "all" = Str.ofString "rows") = False := nF
@[simp] theorem str_16_19 : (Str.ofString "all" = Str.ofString "unlike") = False := nF
@[simp] theorem str_16_20 : (Str.ofString "all" = Str.ofString "cap") = False := nF
@[simp] theorem str_17_0 : (Str.ofString "keep" = Str.ofString "a") = False := nF
@[simp] theorem str_17_1 : (Str.ofString "keep" = Str.ofString "b") = False := nF
@[simp] theorem str_17_2 : (Str.ofString "keep" = Str.ofString "field") = False := nF
@[simp] theorem str_17_3 : (Str.ofString "keep" = Str.ofString "num") = False := nF
@[simp] theorem str_17_4 : (Str.ofString "keep" = Str.ofString "name") = False := nF
@[simp] theorem str_17_5 : (Str.ofString "keep" = Str.ofString "c") = False := nF
@[simp] theorem str_17_6 : (Str.ofString "keep" = Str.ofString "add") = False := nF
@[simp] theorem str_17_7 : (Str.ofString "keep" = Str.ofString "sub") = False := nF
@[simp] theorem str_17_8 : (Str.ofString "keep" = Str.ofString "mul") = False := nF
@[simp] theorem str_17_9 : (Str.ofString "keep" = Str.ofString "quo") = False := nF
@[simp] theorem str_17_10 : (Str.ofString "keep" = Str.ofString "less") = False := nF
@[simp] theorem str_17_11 : (Str.ofString "keep" = Str.ofString "same") = False := nF
@[simp] theorem str_17_12 : (Str.ofString "keep" = Str.ofString "both") = False := nF
@[simp] theorem str_17_13 : (Str.ofString "keep" = Str.ofString "any") = False := nF
@[simp] theorem str_17_14 : (Str.ofString "keep" = Str.ofString "not") = False := nF
@[simp] theorem str_17_15 : (Str.ofString "keep" = Str.ofString "pick") = False := nF
@[simp] theorem str_17_16 : (Str.ofString "keep" = Str.ofString "all") = False := nF
@[simp] theorem str_17_18 : (Str.ofString "keep" = Str.ofString "rows") = False := nF
@[simp] theorem str_17_19 : (Str.ofString "keep" = Str.ofString "unlike") = False := nF
@[simp] theorem str_17_20 : (Str.ofString "keep" = Str.ofString "cap") = False := nF
@[simp] theorem str_18_0 : (Str.ofString "rows" = Str.ofString "a") = False := nF
@[simp] theorem str_18_1 : (Str.ofString "rows" = Str.ofString "b") = False := nF
@[simp] theorem str_18_2 : (Str.ofString "rows" = Str.ofString "field") = False := nF
@[simp] theorem str_18_3 : (Str.ofString "rows" = Str.ofString "num") = False := nF
@[simp] theorem str_18_4 : (Str.ofString "rows" = Str.ofString "name") = False := nF
@[simp] theorem str_18_5 : (Str.ofString "rows" = Str.ofString "c") = False := nF
@[simp] theorem str_18_6 : (Str.ofString "rows" = Str.ofString "add") = False := nF
@[simp] theorem str_18_7 : (Str.ofString "rows" = Str.ofString "sub") = False := nF
@[simp] theorem str_18_8 : (Str.ofString "rows" = Str.ofString "mul") = False := nF
@[simp] theorem str_18_9 : (Str.ofString "rows" = Str.ofString "quo") = False := nF
@[simp] theorem str_18_10 : (Str.ofString "rows" = Str.ofString "less") = False := nF
@[simp] theorem str_18_11 : (Str.ofString "rows" = Str.ofString "same") = False := nF
@[simp] theorem str_18_12 : (Str.ofString "rows" = Str.ofString "both") = False := nF
@[simp] theorem str_18_13 : (Str.ofString "rows" = Str.ofString "any") = False := nF
@[simp] theorem str_18_14 : (Str.ofString "rows" = Str.ofString "not") = False := nF
@[simp] theorem str_18_15 : (Str.ofString "rows" = Str.ofString "pick") = False := nF
@[simp] theorem str_18_16 : (Str.ofString "rows" = Str.ofString "all") = False := nF
@[simp] theorem str_18_17 : (Str.ofString "rows" = Str.ofString "keep") = False := nF
@[simp] theorem str_18_19 : (Str.ofString "rows" = Str.ofString "unlike") = False := nF
@[simp] theorem str_18_20 : (Str.ofString "rows" = Str.ofString "cap") = False := nF
@[simp] theorem str_19_0 : (Str.ofString "unlike" = Str.ofString "a") = False := nF
@[simp] theorem str_19_1 : (Str.ofString "unlike" = Str.ofString "b") = False := nF
@[simp] theorem str_19_2 : (Str.ofString "unlike" = Str.ofString "field") = False := nF
@[simp] theorem str_19_3 : (Str.ofString "unlike" = Str.ofString "num") = False := nF
@[simp] theorem str_19_4 : (Str.ofString "unlike" = Str.ofString "name") = False := nF
@[simp] theorem str_19_5 : (Str.ofString "unlike" = Str.ofString "c") = False := nF
@[simp] theorem str_19_6 : (Str.ofString "unlike" = Str.ofString "add") = False := nF
@[simp] theorem str_19_7 : (Str.ofString "unlike" = Str.ofString "sub") = False := nF
@[simp] theorem str_19_8 : (Str.ofString "unlike" = Str.ofString "mul") = False := nF
@[simp] theorem str_19_9 : (Str.ofString "unlike" = Str.ofString "quo") = False := nF
@[simp] theorem str_19_10 : (Str.ofString "unlike" = Str.ofString "less") = False := nF
@[simp] theorem str_19_11 : (Str.ofString "unlike" = Str.ofString "same") = False := nF
@[simp] theorem str_19_12 : (Str.ofString "unlike" = Str.ofString "both") = False := nF
@[simp] theorem str_19_13 : (Str.ofString "unlike" = Str.ofString "any") = False := nF
@[simp] theorem str_19_14 : (Str.ofString "unlike" = Str.ofString "not") = False := nF
@[simp] theorem str_19_15 : (Str.ofString "unlike" = Str.ofString "pick") = False := nF
@[simp] theorem str_19_16 : (Str.ofString "unlike" = Str.ofString "all") = False := nF
@[simp] theorem str_19_17 : (Str.ofString "unlike" = Str.ofString "keep") = False := nF
@[simp] theorem str_19_18 : (Str.ofString "unlike" = Str.ofString "rows") = False := nF
@[simp] theorem str_19_20 : (Str.ofString "unlike" = Str.ofString "cap") = False := nF
@[simp] theorem str_20_0 : (Str.ofString "cap" = Str.ofString "a") = False := nF
@[simp] theorem str_20_1 : (Str.ofString "cap" = Str.ofString "b") = False := nF
@[simp] theorem str_20_2 : (Str.ofString "cap" = Str.ofString "field") = False := nF
@[simp] theorem str_20_3 : (Str.ofString "cap" = Str.ofString "num") = False := nF
@[simp] theorem str_20_4 : (Str.ofString "cap" = Str.ofString "name") = False := nF
@[simp] theorem str_20_5 : (Str.ofString "cap" = Str.ofString "c") = False := nF
@[simp] theorem str_20_6 : (Str.ofString "cap" = Str.ofString "add") = False := nF
@[simp] theorem str_20_7 : (Str.ofString "cap" = Str.ofString "sub") = False := nF
@[simp] theorem str_20_8 : (Str.ofString "cap" = Str.ofString "mul") = False := nF
@[simp] theorem str_20_9 : (Str.ofString "cap" = Str.ofString "quo") = False := nF
@[simp] theorem str_20_10 : (Str.ofString "cap" = Str.ofString "less") = False := nF
@[simp] theorem str_20_11 : (Str.ofString "cap" = Str.ofString "same") = False := nF
@[simp] theorem str_20_12 : (Str.ofString "cap" = Str.ofString "both") = False := nF
@[simp] theorem str_20_13 : (Str.ofString "cap" = Str.ofString "any") = False := nF
@[simp] theorem str_20_14 : (Str.ofString "cap" = Str.ofString "not") = False := nF
@[simp] theorem str_20_15 : (Str.ofString "cap" = Str.ofString "pick") = False := nF
@[simp] theorem str_20_16 : (Str.ofString "cap" = Str.ofString "all") = False := nF
@[simp] theorem str_20_17 : (Str.ofString "cap" = Str.ofString "keep") = False := nF
@[simp] theorem str_20_18 : (Str.ofString "cap" = Str.ofString "rows") = False := nF
@[simp] theorem str_20_19 : (Str.ofString "cap" = Str.ofString "unlike") = False := nF
-- LIBS 
noncomputable def t_l_cell_at (script : (List Int)) (k : Int) : Res Int :=
  if k < ((script.length : Nat) : Int) then
  (getL script k)
else
  Res.ok (0 : Int)
theorem r_l_cell_at : CallR F_l_cell_at (qC (eL eI) (q1 eI)) (fun (a : (List Int) × Int) => t_l_cell_at a.1 a.2) eI := by
  rintro ⟨script, k⟩ _ ⟨d0, _, rfl, h0, ⟨d1, rfl, h1⟩⟩
  refine r_def (n := 2) (m := 2) (k := 0) (ρ := ([some (sh (eL eI) script), some (sh eI k)] : KEnv)) (LeA.cons h0 (LeA.cons h1 LeA.nil)) rfl ?_
  exact (j_ifsP (al := []) (b_test (v_opp (o_lt _ _) (vS eI k 1) (v_1p (o_lenL _) (vS (eL eI) script 0)))) (j_assoc (j_retT (v_opp (o_ixAL _ _) (vS (eL eI) script 0) (vS eI k 1)))) (j_skip (j_retT (vN 0))))
theorem c_l_cell_at {ρ : KEnv} {fs : DL.Env → Res (List D)} {x0 : (List Int)} {x1 : Int} (h : EvR ρ fs (.ok (x0, x1)) (qC (eL eI) (q1 eI))) : EvR ρ (eCall F_l_cell_at fs) (t_l_cell_at x0 x1) eI := v_callp (t := fun a : (List Int) × Int => t_l_cell_at a.1 a.2) (a := (x0, x1)) r_l_cell_at h
noncomputable def t_l_mix (cell : Int) (k : Int) : Res Int :=
  (((mulR cell (48271 : Int)).bind fun a3 => ((mulR (k + (1 : Int)) (k + (1 : Int))).bind fun a1 => (mulR a1 (69621 : Int))).bind fun b4 => .ok (a3 + b4)).bind fun a5 => .ok (a5 % (2147483647 : Int))).bind fun m6 =>
  ((mulR m6 m6).bind fun a7 => .ok (a7 % (2147483629 : Int)))
theorem r_l_mix : CallR F_l_mix (qC eI (q1 eI)) (fun (a : Int × Int) => t_l_mix a.1 a.2) eI := by
  rintro ⟨cell, k⟩ _ ⟨d0, _, rfl, h0, ⟨d1, rfl, h1⟩⟩
  refine r_def (n := 2) (m := 3) (k := 1) (ρ := ([some (sh eI cell), some (sh eI k)] : KEnv)) (LeA.cons h0 (LeA.cons h1 LeA.nil)) rfl ?_
  exact (j_do (d_set (al := []) (v_opl (fun a => o_modL a (by decide)) (v_op o_add (v_opp (o_mul _ _) (vS eI cell 0) (vN 48271)) (v_op o_mul (v_opp (o_mul _ _) (v_opp (o_add _ _) (vS eI k 1) (vN 1)) (v_opp (o_add _ _) (vS eI k 1) (vN 1))) (vN 69621))) (vN 2147483647))) (fun m6 => (j_retT (v_opl (fun a => o_modL a (by decide)) (v_opp (o_mul _ _) (vS eI m6 2) (vS eI m6 2)) (vN 2147483629)))))
theorem c_l_mix {ρ : KEnv} {fs : DL.Env → Res (List D)} {x0 : Int} {x1 : Int} (h : EvR ρ fs (.ok (x0, x1)) (qC eI (q1 eI))) : EvR ρ (eCall F_l_mix fs) (t_l_mix x0 x1) eI := v_callp (t := fun a : Int × Int => t_l_mix a.1 a.2) (a := (x0, x1)) r_l_mix h
noncomputable def t_l_number (cell : Int) (k : Int) (many : Int) : Res Int :=
  (t_l_mix cell k).bind fun n1 =>
  if (n1 % (5 : Int)) = (0 : Int) then
  ((((mulR (2 : Int) (10 ^ 18 : Int)).bind fun a2 => .ok (a2 + (1 : Int))).bind fun b5 => (modR cell b5)).bind fun a6 => .ok (a6 - (10 ^ 18 : Int)))
else
  ((modR (n1 / (5 : Int)) many).bind fun a8 => .ok (a8 - (many / (2 : Int))))
theorem r_l_number : CallR F_l_number (qC eI (qC eI (q1 eI))) (fun (a : Int × Int × Int) => t_l_number a.1 a.2.1 a.2.2) eI := by
  rintro ⟨cell, k, many⟩ _ ⟨d0, _, rfl, h0, ⟨d1, _, rfl, h1, ⟨d2, rfl, h2⟩⟩⟩
  refine r_def (n := 3) (m := 4) (k := 1) (ρ := ([some (sh eI cell), some (sh eI k), some (sh eI many)] : KEnv)) (LeA.cons h0 (LeA.cons h1 (LeA.cons h2 LeA.nil))) rfl ?_
  exact (j_do (d_set (al := []) (c_l_mix (vq_cp (vS eI cell 0) (vq_1 (vS eI k 1))))) (fun n1 => (j_ifsP (al := []) (b_test (v_opp ((o_eq (EqE.int _)) _ _) (v_opp (o_modL _ (by decide)) (vS eI n1 3) (vN 5)) (vN 0))) (j_assoc (j_retT (v_op o_sub (v_op o_mod (vS eI cell 0) (v_op o_add (v_opp (o_mul _ _) (vN 2) (v_opp (o_powL pow_10_18) (vN 10) (vN 18))) (vN 1))) (v_opp (o_powL pow_10_18) (vN 10) (vN 18))))) (j_skip (j_retT (v_op o_sub (v_opp (o_mod _ _) (v_opp (o_divL _ (by decide) (by decide)) (vS eI n1 3) (vN 5)) (vS eI many 2)) (v_opp (o_divL _ (by decide) (by decide)) (vS eI many 2) (vN 2))))))))
theorem c_l_number {ρ : KEnv} {fs : DL.Env → Res (List D)} {x0 : Int} {x1 : Int} {x2 : Int} (h : EvR ρ fs (.ok (x0, x1, x2)) (qC eI (qC eI (q1 eI)))) : EvR ρ (eCall F_l_number fs) (t_l_number x0 x1 x2) eI := v_callp (t := fun a : Int × Int × Int => t_l_number a.1 a.2.1 a.2.2) (a := (x0, x1, x2)) r_l_number h
theorem m_l_number {ρ : KEnv} {fs : DL.Env → Res (List D)} {r : Res (Int × Int × Int)} (h : EvR ρ fs r (qC eI (qC eI (q1 eI)))) : EvR ρ (eCall F_l_number fs) (r.bind fun a => t_l_number a.1 a.2.1 a.2.2) eI := v_call (t := fun a : Int × Int × Int => t_l_number a.1 a.2.1 a.2.2) r_l_number h
noncomputable def t_l_heap (cells : (List Int)) (width : Int) : Res (List (List Int)) :=
  (getL [(7 : Int), (3 : Int), (3 : Int), (2 : Int)] (width - (1 : Int))).bind fun many1 =>
  (forR cells ([] : List (List Int)) (fun cell3 s2 =>
  (((rng1 width).bind fun l15 => compR l15 (fun j5 => (((mulR (3 : Int) j5).bind fun b7 => .ok ((11 : Int) + b7)).bind fun a13 => t_l_number cell3 a13 many1))).bind fun a17 => appR s2 a17).bind fun rows4 =>
  Res.ok rows4) : Res ((List (List Int)))).bind fun s2 =>
  (sortKR s2)
theorem r_l_heap : CallR F_l_heap (qC (eL eI) (q1 eI)) (fun (a : (List Int) × Int) => t_l_heap a.1 a.2) (eT eR) := by
  rintro ⟨cells, width⟩ _ ⟨d0, _, rfl, h0, ⟨d1, rfl, h1⟩⟩
  refine r_def (n := 2) (m := 6) (k := 4) (ρ := ([some (sh (eL eI) cells), some (sh eI width)] : KEnv)) (LeA.cons h0 (LeA.cons h1 LeA.nil)) rfl ?_
  exact (j_do (d_set (al := []) (v_opp (o_ixAL _ _) (v_lst (vl_cp (vN 7) (vl_cp (vN 3) (vl_cp (vN 3) (vl_cp (vN 2) vl_nil))))) (v_opp (o_sub _ _) (vS eI width 1) (vN 1)))) (fun many1 => (j_go (g_setF (al := []) (v_lst (vl_nil (E := eR)))) (j_do (d_forP (al := []) (ρs := fun (s2 : ((List (List Int)))) => ([some (sh (eL eI) cells), some (sh eI width), some (sh eI many1), some (ow (eL eR) s2), none, none] : KEnv)) (ρb := fun cell3 (s2 : ((List (List Int)))) => ([some (sh (eL eI) cells), some (sh eI width), some (sh eI many1), some (ow (eL eR) s2), some (sh eI cell3), none] : KEnv)) (v_seqL (vS (eL eI) cells 0)) (Sb.same (Sb.same (Sb.same (Sb.same (Sb.drop (Sb.drop Sb.nil)))))) (fun cell3 s2 => (p_nm (i := 4))) (fun cell3 s2 => (j_do (d_app (al := []) rfl (v_1i o_tupLR (v_comp (ρb := fun j5 => ([some (sh (eL eI) cells), some (sh eI width), some (sh eI many1), some (ow (eL eR) s2), some (sh eI cell3), some (sh eI j5)] : KEnv)) (v_rng1p (vS eI width 1)) (fun j5 => (p_nm (i := 5))) (fun j5 => (v_eqr (r := ((((mulR (3 : Int) j5).bind fun b7 => .ok ((11 : Int) + b7)).bind fun a8 => .ok (a8, many1)).bind fun b11 => .ok (cell3, b11)).bind fun a => t_l_number a.1 a.2.1 a.2.2) (m_l_number (vq_c (vS eI cell3 4) (vq_c (v_op o_add (vN 11) (v_opp (o_mul _ _) (vN 3) (vS eI j5 5))) (vq_1 (vS eI many1 2))))) (by first | (simp only [Res.assoc, Res.bind_ok]; done) | (simp only [Res.assoc, Res.bind_ok]; rfl))))))) (fun rows4 => (j_endB (Sb.same (Sb.same (Sb.same (Sb.same (Sb.drop (Sb.drop Sb.nil))))))))))) (fun s2 => (j_retT (v_1i o_tupL (v_1p (o_sortLK _) (v_o (E := (eL eR)) (a := s2) (i := 3) rfl)))))))))
theorem c_l_heap {ρ : KEnv} {fs : DL.Env → Res (List D)} {x0 : (List Int)} {x1 : Int} (h : EvR ρ fs (.ok (x0, x1)) (qC (eL eI) (q1 eI))) : EvR ρ (eCall F_l_heap fs) (t_l_heap x0 x1) (eT eR) := v_callp (t := fun a : (List Int) × Int => t_l_heap a.1 a.2) (a := (x0, x1)) r_l_heap h
noncomputable def t_l_names (script : (List Int)) : Res (List (Str × Int)) :=
  (((t_l_number script.sum (301 : Int) (5 : Int)).bind fun a3 => ((t_l_number script.sum (302 : Int) (5 : Int)).bind fun a1 => .ok (a1 :: [])).bind fun b4 => .ok (a3 :: b4)).bind fun vs => .ok ((["a", "b"] : List Str).zip vs))
theorem r_l_names : CallR F_l_names (q1 (eL eI)) (fun (a : (List Int)) => t_l_names a) (eM false D.str eI) := by
  rintro script _ ⟨d0, rfl, h0⟩
  refine r_def (n := 1) (m := 1) (k := 0) (ρ := ([some (sh (eL eI) script)] : KEnv)) (LeA.cons h0 LeA.nil) rfl ?_
  exact (j_retT (v_disp (ks := (["a", "b"] : List Str)) rfl (vl_c (c_l_number (vq_cp (v_1p (o_sum _) (vS (eL eI) script 0)) (vq_cp (vN 301) (vq_1 (vN 5))))) (vl_c (c_l_number (vq_cp (v_1p (o_sum _) (vS (eL eI) script 0)) (vq_cp (vN 302) (vq_1 (vN 5))))) vl_nil))))
theorem c_l_names {ρ : KEnv} {fs : DL.Env → Res (List D)} {x0 : (List Int)} (h : EvR ρ fs (.ok x0) (q1 (eL eI))) : EvR ρ (eCall F_l_names fs) (t_l_names x0) (eM false D.str eI) := v_callp (t := fun a : (List Int) => t_l_names a) (a := x0) r_l_names h
noncomputable def t_l_leaf (cell : Int) (k : Int) (width : Int) : Res D :=
  (t_l_mix cell k).bind fun n1 =>
  if (n1 % (4 : Int)) = (0 : Int) then
  (((t_l_number cell (k + (100 : Int)) (7 : Int)).bind fun b3 => .ok (("num" : Str), b3)).bind fun z => .ok ((fPr (fCons D.str (fOne D.int))) z))
else
  if (n1 % (8 : Int)) = (1 : Int) then
  (((getL [("a" : Str), ("b" : Str), ("c" : Str)] ((n1 / (8 : Int)) % (3 : Int))).bind fun b5 => .ok (("name" : Str), b5)).bind fun z => .ok ((fPr (fCons D.str (fOne D.str))) z))
else
  (((modR (n1 / (8 : Int)) width).bind fun b7 => .ok (("field" : Str), b7)).bind fun z => .ok ((fPr (fCons D.str (fOne D.int))) z))
theorem r_l_leaf : CallR F_l_leaf (qC eI (qC eI (q1 eI))) (fun (a : Int × Int × Int) => t_l_leaf a.1 a.2.1 a.2.2) eD := by
  rintro ⟨cell, k, width⟩ _ ⟨d0, _, rfl, h0, ⟨d1, _, rfl, h1, ⟨d2, rfl, h2⟩⟩⟩
  refine r_def (n := 3) (m := 4) (k := 1) (ρ := ([some (sh eI cell), some (sh eI k), some (sh eI width)] : KEnv)) (LeA.cons h0 (LeA.cons h1 (LeA.cons h2 LeA.nil))) rfl ?_
  exact (j_do (d_set (al := []) (c_l_mix (vq_cp (vS eI cell 0) (vq_1 (vS eI k 1))))) (fun n1 => (j_ifsP (al := []) (b_test (v_opp ((o_eq (EqE.int _)) _ _) (v_opp (o_modL _ (by decide)) (vS eI n1 3) (vN 4)) (vN 0))) (j_assoc (j_retT (v_mapF (f := (fPr (fCons D.str (fOne D.int)))) (Fun.pr (FunQ.c Fun.str (FunQ.one Fun.int))) (v_tupQ (vq_c (v_c (E := eS) (a := ("num" : Str)) rfl) (vq_1 (c_l_number (vq_cp (vS eI cell 0) (vq_cp (v_opp (o_add _ _) (vS eI k 1) (vN 100)) (vq_1 (vN 7))))))))))) (j_skip (j_ifsP (al := []) (b_test (v_opp ((o_eq (EqE.int _)) _ _) (v_opp (o_modL _ (by decide)) (vS eI n1 3) (vN 8)) (vN 1))) (j_assoc (j_retT (v_mapF (f := (fPr (fCons D.str (fOne D.str)))) (Fun.pr (FunQ.c Fun.str (FunQ.one Fun.str))) (v_tupQ (vq_c (v_c (E := eS) (a := ("name" : Str)) rfl) (vq_1 (v_opp (o_ixAL _ _) (v_lst (vl_cp (v_c (E := eS) (a := ("a" : Str)) rfl) (vl_cp (v_c (E := eS) (a := ("b" : Str)) rfl) (vl_cp (v_c (E := eS) (a := ("c" : Str)) rfl) vl_nil)))) (v_opp (o_modL _ (by decide)) (v_opp (o_divL _ (by decide) (by decide)) (vS eI n1 3) (vN 8)) (vN 3))))))))) (j_skip (j_retT (v_mapF (f := (fPr (fCons D.str (fOne D.int)))) (Fun.pr (FunQ.c Fun.str (FunQ.one Fun.int))) (v_tupQ (vq_c (v_c (E := eS) (a := ("field" : Str)) rfl) (vq_1 (v_opp (o_mod _ _) (v_opp (o_divL _ (by decide) (by decide)) (vS eI n1 3) (vN 8)) (vS eI width 2)))))))))))))
theorem c_l_leaf {ρ : KEnv} {fs : DL.Env → Res (List D)} {x0 : Int} {x1 : Int} {x2 : Int} (h : EvR ρ fs (.ok (x0, x1, x2)) (qC eI (qC eI (q1 eI)))) : EvR ρ (eCall F_l_leaf fs) (t_l_leaf x0 x1 x2) eD := v_callp (t := fun a : Int × Int × Int => t_l_leaf a.1 a.2.1 a.2.2) (a := (x0, x1, x2)) r_l_leaf h
noncomputable def t_l_term (cell : Int) (k : Int) (width : Int) : Res D :=
  (t_l_mix cell k).bind fun n1 =>
  (t_l_leaf cell (k + (20 : Int)) width).bind fun one2 =>
  (t_l_leaf cell (k + (40 : Int)) width).bind fun two3 =>
  if (n1 % (8 : Int)) < (3 : Int) then
  Res.ok one2
else
  if (n1 % (8 : Int)) = (3 : Int) then
  Res.ok ((fPr (fCons D.str (fOne (fun d : D => d)))) (("not" : Str), one2))
else
  if (n1 % (8 : Int)) = (4 : Int) then
  (((((t_l_leaf cell (k + (60 : Int)) width).bind fun b5 => .ok (two3, b5)).bind fun b7 => .ok (one2, b7)).bind fun b9 => .ok (("pick" : Str), b9)).bind fun z => .ok ((fPr (fCons D.str (fCons (fun d : D => d) (fCons (fun d : D => d) (fOne (fun d : D => d)))))) z))
else
  (Res.ok [("add" : Str), ("sub" : Str), ("mul" : Str), ("quo" : Str), ("less" : Str), ("same" : Str), ("both" : Str), ("any" : Str)]).bind fun ops10 =>
  (((getL ops10 ((n1 / (8 : Int)) % (8 : Int))).bind fun a11 => .ok (a11, one2, two3)).bind fun z => .ok ((fPr (fCons D.str (fCons (fun d : D => d) (fOne (fun d : D => d))))) z))
theorem r_l_term : CallR F_l_term (qC eI (qC eI (q1 eI))) (fun (a : Int × Int × Int) => t_l_term a.1 a.2.1 a.2.2) eD := by
  rintro ⟨cell, k, width⟩ _ ⟨d0, _, rfl, h0, ⟨d1, _, rfl, h1, ⟨d2, rfl, h2⟩⟩⟩
  refine r_def (n := 3) (m := 8) (k := 5) (ρ := ([some (sh eI cell), some (sh eI k), some (sh eI width)] : KEnv)) (LeA.cons h0 (LeA.cons h1 (LeA.cons h2 LeA.nil))) rfl ?_
  exact (j_do (d_set (al := []) (c_l_mix (vq_cp (vS eI cell 0) (vq_1 (vS eI k 1))))) (fun n1 => (j_do (d_set (al := []) (c_l_leaf (vq_cp (vS eI cell 0) (vq_cp (v_opp (o_add _ _) (vS eI k 1) (vN 20)) (vq_1 (vS eI width 2)))))) (fun one2 => (j_do (d_set (al := []) (c_l_leaf (vq_cp (vS eI cell 0) (vq_cp (v_opp (o_add _ _) (vS eI k 1) (vN 40)) (vq_1 (vS eI width 2)))))) (fun two3 => (j_go (g_set (al := []) (v_opp (o_modL _ (by decide)) (vS eI n1 3) (vN 8))) (j_ifsP (al := []) (b_test (v_opp (o_lt _ _) (vS eI (n1 % (8 : Int)) 6) (vN 3))) (j_assoc (j_retT (vS eD one2 4))) (j_skip (j_ifsP (al := []) (b_test (v_opp ((o_eq (EqE.int _)) _ _) (vS eI (n1 % (8 : Int)) 6) (vN 3))) (j_assoc (j_retT (v_castF (f := (fPr (fCons D.str (fOne (fun d : D => d))))) (Fun.pr (FunQ.c Fun.str (FunQ.one Fun.raw))) (v_tupQ (vq_cp (v_c (E := eS) (a := ("not" : Str)) rfl) (vq_1 (vS eD one2 4))))))) (j_skip (j_ifsP (al := []) (b_test (v_opp ((o_eq (EqE.int _)) _ _) (vS eI (n1 % (8 : Int)) 6) (vN 4))) (j_assoc (j_retT (v_mapF (f := (fPr (fCons D.str (fCons (fun d : D => d) (fCons (fun d : D => d) (fOne (fun d : D => d))))))) (Fun.pr (FunQ.c Fun.str (FunQ.c Fun.raw (FunQ.c Fun.raw (FunQ.one Fun.raw))))) (v_tupQ (vq_c (v_c (E := eS) (a := ("pick" : Str)) rfl) (vq_c (vS eD one2 4) (vq_c (vS eD two3 5) (vq_1 (c_l_leaf (vq_cp (vS eI cell 0) (vq_cp (v_opp (o_add _ _) (vS eI k 1) (vN 60)) (vq_1 (vS eI width 2))))))))))))) (j_skip (j_do (d_set (al := []) (v_lst (vl_cp (v_c (E := eS) (a := ("add" : Str)) rfl) (vl_cp (v_c (E := eS) (a := ("sub" : Str)) rfl) (vl_cp (v_c (E := eS) (a := ("mul" : Str)) rfl) (vl_cp (v_c (E := eS) (a := ("quo" : Str)) rfl) (vl_cp (v_c (E := eS) (a := ("less" : Str)) rfl) (vl_cp (v_c (E := eS) (a := ("same" : Str)) rfl) (vl_cp (v_c (E := eS) (a := ("both" : Str)) rfl) (vl_cp (v_c (E := eS) (a := ("any" : Str)) rfl) vl_nil)))))))))) (fun ops10 => (j_retT (v_mapF (f := (fPr (fCons D.str (fCons (fun d : D => d) (fOne (fun d : D => d)))))) (Fun.pr (FunQ.c Fun.str (FunQ.c Fun.raw (FunQ.one Fun.raw)))) (v_tupQ (vq_c (v_opp (o_ixAL _ _) (vS (eL eS) ops10 7) (v_opp (o_modL _ (by decide)) (v_opp (o_divL _ (by decide) (by decide)) (vS eI n1 3) (vN 8)) (vN 8))) (vq_cp (vS eD one2 4) (vq_1 (vS eD two3 5))))))))))))))))))))))
theorem c_l_term {ρ : KEnv} {fs : DL.Env → Res (List D)} {x0 : Int} {x1 : Int} {x2 : Int} (h : EvR ρ fs (.ok (x0, x1, x2)) (qC eI (qC eI (q1 eI)))) : EvR ρ (eCall F_l_term fs) (t_l_term x0 x1 x2) eD := v_callp (t := fun a : Int × Int × Int => t_l_term a.1 a.2.1 a.2.2) (a := (x0, x1, x2)) r_l_term h
noncomputable def t_field_at (row : (List Int)) (k : D) : Res Int :=
  ((D.asI k).bind fun a1 => .ok (decide (a1 < ((row.length : Nat) : Int)))).bind fun z => if z = true then
  ((D.asI k).bind fun b4 => (getL row b4))
else
  Res.ok (0 : Int)
theorem r_field_at : CallR F_field_at (qC eR (q1 eD)) (fun (a : (List Int) × D) => t_field_at a.1 a.2) eI := by
  rintro ⟨row, k⟩ _ ⟨d0, _, rfl, h0, ⟨d1, rfl, h1⟩⟩
  refine r_def (n := 2) (m := 2) (k := 0) (ρ := ([some (sh eR row), some (sh eD k)] : KEnv)) (LeA.cons h0 (LeA.cons h1 LeA.nil)) rfl ?_
  exact (j_ifs (al := []) (b_test (v_op o_lt (v_asI (vS eD k 1)) (v_1p (o_lenR _) (vS eR row 0)))) (j_assoc (j_retT (v_op o_ixAR (vS eR row 0) (v_asI (vS eD k 1))))) (j_skip (j_retT (vN 0))))
theorem c_field_at {ρ : KEnv} {fs : DL.Env → Res (List D)} {x0 : (List Int)} {x1 : D} (h : EvR ρ fs (.ok (x0, x1)) (qC eR (q1 eD))) : EvR ρ (eCall F_field_at fs) (t_field_at x0 x1) eI := v_callp (t := fun a : (List Int) × D => t_field_at a.1 a.2) (a := (x0, x1)) r_field_at h
theorem m_field_at {ρ : KEnv} {fs : DL.Env → Res (List D)} {r : Res ((List Int) × D)} (h : EvR ρ fs r (qC eR (q1 eD))) : EvR ρ (eCall F_field_at fs) (r.bind fun a => t_field_at a.1 a.2) eI := v_call (t := fun a : (List Int) × D => t_field_at a.1 a.2) r_field_at h
noncomputable def t_worked (op : D) (x : Int) (y : Int) : Res Int :=
  (rawB (dEq op (D.str ("add" : Str)))).bind fun z => if z = true then
  Res.ok (x + y)
else
  (rawB (dEq op (D.str ("sub" : Str)))).bind fun z => if z = true then
  Res.ok (x - y)
else
  (rawB (dEq op (D.str ("mul" : Str)))).bind fun z => if z = true then
  (mulR x y)
else
  if y = (0 : Int) then
  Res.ok (0 : Int)
else
  (divR x y)
theorem r_worked : CallR F_worked (qC eD (qC eI (q1 eI))) (fun (a : D × Int × Int) => t_worked a.1 a.2.1 a.2.2) eI := by
  rintro ⟨op, x, y⟩ _ ⟨d0, _, rfl, h0, ⟨d1, _, rfl, h1, ⟨d2, rfl, h2⟩⟩⟩
  refine r_def (n := 3) (m := 3) (k := 0) (ρ := ([some (sh eD op), some (sh eI x), some (sh eI y)] : KEnv)) (LeA.cons h0 (LeA.cons h1 (LeA.cons h2 LeA.nil))) rfl ?_
  exact (j_ifs (al := []) (b_test (v_opp ((o_rawB dEq) _ _) (vS eD op 0) (vT ("add" : Str)))) (j_assoc (j_retT (v_opp (o_add _ _) (vS eI x 1) (vS eI y 2)))) (j_skip (j_ifs (al := []) (b_test (v_opp ((o_rawB dEq) _ _) (vS eD op 0) (vT ("sub" : Str)))) (j_assoc (j_retT (v_opp (o_sub _ _) (vS eI x 1) (vS eI y 2)))) (j_skip (j_ifs (al := []) (b_test (v_opp ((o_rawB dEq) _ _) (vS eD op 0) (vT ("mul" : Str)))) (j_assoc (j_retT (v_opp (o_mul _ _) (vS eI x 1) (vS eI y 2)))) (j_skip (j_ifsP (al := []) (b_test (v_opp ((o_eq (EqE.int _)) _ _) (vS eI y 2) (vN 0))) (j_assoc (j_retT (vN 0))) (j_skip (j_retT (v_opp (o_div _ _) (vS eI x 1) (vS eI y 2)))))))))))
theorem c_worked {ρ : KEnv} {fs : DL.Env → Res (List D)} {x0 : D} {x1 : Int} {x2 : Int} (h : EvR ρ fs (.ok (x0, x1, x2)) (qC eD (qC eI (q1 eI)))) : EvR ρ (eCall F_worked fs) (t_worked x0 x1 x2) eI := v_callp (t := fun a : D × Int × Int => t_worked a.1 a.2.1 a.2.2) (a := (x0, x1, x2)) r_worked h
theorem m_worked {ρ : KEnv} {fs : DL.Env → Res (List D)} {r : Res (D × Int × Int)} (h : EvR ρ fs r (qC eD (qC eI (q1 eI)))) : EvR ρ (eCall F_worked fs) (r.bind fun a => t_worked a.1 a.2.1 a.2.2) eI := v_call (t := fun a : D × Int × Int => t_worked a.1 a.2.1 a.2.2) r_worked h
noncomputable def t_held (n : Int) : Res Int :=
  Res.ok (max (-(1000000000000000000 : Int)) (min (1000000000000000000 : Int) n))
theorem r_held : CallR F_held (q1 eI) (fun (a : Int) => t_held a) eI := by
  rintro n _ ⟨d0, rfl, h0⟩
  refine r_def (n := 1) (m := 1) (k := 0) (ρ := ([some (sh eI n)] : KEnv)) (LeA.cons h0 LeA.nil) rfl ?_
  exact (j_retT (v_opp (o_max _ _) (v_neg (vN 1000000000000000000)) (v_opp (o_min _ _) (vN 1000000000000000000) (vS eI n 0))))
theorem c_held {ρ : KEnv} {fs : DL.Env → Res (List D)} {x0 : Int} (h : EvR ρ fs (.ok x0) (q1 eI)) : EvR ρ (eCall F_held fs) (t_held x0) eI := v_callp (t := fun a : Int => t_held a) (a := x0) r_held h
theorem m_held {ρ : KEnv} {fs : DL.Env → Res (List D)} {r : Res (Int)} (h : EvR ρ fs r (q1 eI)) : EvR ρ (eCall F_held fs) (r.bind fun a => t_held a) eI := v_call (t := fun a : Int => t_held a) r_held h
noncomputable def t_marked (op : D) (x : Int) (y : Int) : Res Bool :=
  (rawB (dEq op (D.str ("less" : Str)))).bind fun z => if z = true then
  Res.ok (decide (x < y))
else
  (rawB (dEq op (D.str ("same" : Str)))).bind fun z => if z = true then
  Res.ok (decide (x = y))
else
  (rawB (dEq op (D.str ("both" : Str)))).bind fun z => if z = true then
  Res.ok (decide ((x ≠ (0 : Int)) ∧ (y ≠ (0 : Int))))
else
  Res.ok (decide ((x ≠ (0 : Int)) ∨ (y ≠ (0 : Int))))
theorem r_marked : CallR F_marked (qC eD (qC eI (q1 eI))) (fun (a : D × Int × Int) => t_marked a.1 a.2.1 a.2.2) eB := by
  rintro ⟨op, x, y⟩ _ ⟨d0, _, rfl, h0, ⟨d1, _, rfl, h1, ⟨d2, rfl, h2⟩⟩⟩
  refine r_def (n := 3) (m := 3) (k := 0) (ρ := ([some (sh eD op), some (sh eI x), some (sh eI y)] : KEnv)) (LeA.cons h0 (LeA.cons h1 (LeA.cons h2 LeA.nil))) rfl ?_
  exact (j_ifs (al := []) (b_test (v_opp ((o_rawB dEq) _ _) (vS eD op 0) (vT ("less" : Str)))) (j_assoc (j_retT (v_opp (o_lt _ _) (vS eI x 1) (vS eI y 2)))) (j_skip (j_ifs (al := []) (b_test (v_opp ((o_rawB dEq) _ _) (vS eD op 0) (vT ("same" : Str)))) (j_assoc (j_retT (v_opp ((o_eq (EqE.int _)) _ _) (vS eI x 1) (vS eI y 2)))) (j_skip (j_ifs (al := []) (b_test (v_opp ((o_rawB dEq) _ _) (vS eD op 0) (vT ("both" : Str)))) (j_assoc (j_retT (v_andP (v_opp ((o_ne (EqE.int _)) _ _) (vS eI x 1) (vN 0)) (v_opp ((o_ne (EqE.int _)) _ _) (vS eI y 2) (vN 0))))) (j_skip (j_retT (v_orP (v_opp ((o_ne (EqE.int _)) _ _) (vS eI x 1) (vN 0)) (v_opp ((o_ne (EqE.int _)) _ _) (vS eI y 2) (vN 0))))))))))
theorem c_marked {ρ : KEnv} {fs : DL.Env → Res (List D)} {x0 : D} {x1 : Int} {x2 : Int} (h : EvR ρ fs (.ok (x0, x1, x2)) (qC eD (qC eI (q1 eI)))) : EvR ρ (eCall F_marked fs) (t_marked x0 x1 x2) eB := v_callp (t := fun a : D × Int × Int => t_marked a.1 a.2.1 a.2.2) (a := (x0, x1, x2)) r_marked h
theorem m_marked {ρ : KEnv} {fs : DL.Env → Res (List D)} {r : Res (D × Int × Int)} (h : EvR ρ fs r (qC eD (qC eI (q1 eI)))) : EvR ρ (eCall F_marked fs) (r.bind fun a => t_marked a.1 a.2.1 a.2.2) eB := v_call (t := fun a : D × Int × Int => t_marked a.1 a.2.1 a.2.2) r_marked h
noncomputable def t_reckoned (op : D) (parts : (List Int)) : Res Int :=
  (rawB (dEq op (D.str ("not" : Str)))).bind fun z => if z = true then
  (((getL parts (0 : Int)).bind fun a1 => .ok (decide (a1 = (0 : Int)))).bind fun a3 => .ok (if a3 = true then 1 else 0))
else
  (rawB (dEq op (D.str ("pick" : Str)))).bind fun z => if z = true then
  ((getL parts (0 : Int)).bind fun a4 => .ok (decide (a4 ≠ (0 : Int)))).bind fun z => if z = true then
  (getL parts (1 : Int))
else
  (getL parts (2 : Int))
else
  ((rawB (dEq op (D.str ("add" : Str)))).bind fun z => if z = true then .ok true else ((rawB (dEq op (D.str ("sub" : Str)))).bind fun z => if z = true then .ok true else ((rawB (dEq op (D.str ("mul" : Str)))).bind fun z => if z = true then .ok true else (rawB (dEq op (D.str ("quo" : Str))))))).bind fun z => if z = true then
  (((getL parts (0 : Int)).bind fun a11 => (getL parts (1 : Int)).bind fun a12 => t_worked op a11 a12).bind fun a13 => t_held a13)
else
  (((getL parts (0 : Int)).bind fun a19 => (getL parts (1 : Int)).bind fun a20 => t_marked op a19 a20).bind fun a21 => .ok (if a21 = true then 1 else 0))
theorem r_reckoned : CallR F_reckoned (qC eD (q1 (eL eI))) (fun (a : D × (List Int)) => t_reckoned a.1 a.2) eI := by
  rintro ⟨op, parts⟩ _ ⟨d0, _, rfl, h0, ⟨d1, rfl, h1⟩⟩
  refine r_def (n := 2) (m := 2) (k := 0) (ρ := ([some (sh eD op), some (sh (eL eI) parts)] : KEnv)) (LeA.cons h0 (LeA.cons h1 LeA.nil)) rfl ?_
  exact (j_ifs (al := []) (b_test (v_opp ((o_rawB dEq) _ _) (vS eD op 0) (vT ("not" : Str)))) (j_assoc (j_retT (v_1 o_intB (v_op (o_eq (EqE.int _)) (v_opp (o_ixL _ _) (vS (eL eI) parts 1) (vN 0)) (vN 0))))) (j_skip (j_ifs (al := []) (b_test (v_opp ((o_rawB dEq) _ _) (vS eD op 0) (vT ("pick" : Str)))) (j_assoc (j_ifs (al := []) (b_test (v_op (o_ne (EqE.int _)) (v_opp (o_ixL _ _) (vS (eL eI) parts 1) (vN 0)) (vN 0))) (j_assoc (j_retT (v_opp (o_ixL _ _) (vS (eL eI) parts 1) (vN 1)))) (j_skip (j_assoc (j_retT (v_opp (o_ixL _ _) (vS (eL eI) parts 1) (vN 2))))))) (j_skip (j_ifs (al := []) (b_or (b_test (v_opp ((o_rawB dEq) _ _) (vS eD op 0) (vT ("add" : Str)))) (b_or (b_test (v_opp ((o_rawB dEq) _ _) (vS eD op 0) (vT ("sub" : Str)))) (b_or (b_test (v_opp ((o_rawB dEq) _ _) (vS eD op 0) (vT ("mul" : Str)))) (b_test (v_opp ((o_rawB dEq) _ _) (vS eD op 0) (vT ("quo" : Str))))))) (j_assoc (j_retT (m_held (vq_1 (v_eqr (r := (((getL parts (0 : Int)).bind fun a6 => (getL parts (1 : Int)).bind fun b7 => .ok (a6, b7)).bind fun b9 => .ok (op, b9)).bind fun a => t_worked a.1 a.2.1 a.2.2) (m_worked (vq_c (vS eD op 0) (vq_c (v_opp (o_ixL _ _) (vS (eL eI) parts 1) (vN 0)) (vq_1 (v_opp (o_ixL _ _) (vS (eL eI) parts 1) (vN 1)))))) (by first | (simp only [Res.assoc, Res.bind_ok]; done) | (simp only [Res.assoc, Res.bind_ok]; rfl))))))) (j_skip (j_retT (v_1 o_intB (v_eqr (r := (((getL parts (0 : Int)).bind fun a14 => (getL parts (1 : Int)).bind fun b15 => .ok (a14, b15)).bind fun b17 => .ok (op, b17)).bind fun a => t_marked a.1 a.2.1 a.2.2) (m_marked (vq_c (vS eD op 0) (vq_c (v_opp (o_ixL _ _) (vS (eL eI) parts 1) (vN 0)) (vq_1 (v_opp (o_ixL _ _) (vS (eL eI) parts 1) (vN 1)))))) (by first | (simp only [Res.assoc, Res.bind_ok]; done) | (simp only [Res.assoc, Res.bind_ok]; rfl)))))))))))
theorem c_reckoned {ρ : KEnv} {fs : DL.Env → Res (List D)} {x0 : D} {x1 : (List Int)} (h : EvR ρ fs (.ok (x0, x1)) (qC eD (q1 (eL eI)))) : EvR ρ (eCall F_reckoned fs) (t_reckoned x0 x1) eI := v_callp (t := fun a : D × (List Int) => t_reckoned a.1 a.2) (a := (x0, x1)) r_reckoned h
theorem m_reckoned {ρ : KEnv} {fs : DL.Env → Res (List D)} {r : Res (D × (List Int))} (h : EvR ρ fs r (qC eD (q1 (eL eI)))) : EvR ρ (eCall F_reckoned fs) (r.bind fun a => t_reckoned a.1 a.2) eI := v_call (t := fun a : D × (List Int) => t_reckoned a.1 a.2) r_reckoned h
noncomputable def tb_worth (G : D → (List Int) → (List (Str × Int)) → Res Int) (term : D) (row : (List Int)) (names : (List (Str × Int))) : Res Int :=
  ((dIx term (D.int (0 : Int))).bind fun a1 => (rawB (dEq a1 (D.str ("num" : Str))))).bind fun z => if z = true then
  ((dIx term (D.int (1 : Int))).bind D.asI)
else
  ((dIx term (D.int (0 : Int))).bind fun a3 => (rawB (dEq a3 (D.str ("field" : Str))))).bind fun z => if z = true then
  ((dIx term (D.int (1 : Int))).bind fun a8 => t_field_at row a8)
else
  ((dIx term (D.int (0 : Int))).bind fun a9 => (rawB (dEq a9 (D.str ("name" : Str))))).bind fun z => if z = true then
  (((dIx term (D.int (1 : Int))).bind D.asS).bind fun k11 => .ok ((getG names k11).getD (0 : Int)))
else
  ((dIx term (D.int (0 : Int))).bind fun a17 => (((dCut (some (1 : Int)) none term).bind D.asItems).bind fun l14 => compR l14 (fun part13 => (G part13 row names))).bind fun a18 => t_reckoned a17 a18)
noncomputable def u_worth : Nat → D → (List Int) → (List (Str × Int)) → Res Int
  | 0 => fun _ _ _ => .bad
  | j + 1 => tb_worth (u_worth j)
noncomputable def t_worth : D → (List Int) → (List (Str × Int)) → Res Int := u_worth 12
theorem rb_worth {GF : List D → Res D} {G : D → (List Int) → (List (Str × Int)) → Res Int} (r_G : CallR GF (qC eD (qC eR (q1 (eM false D.str eI)))) (fun (a : D × (List Int) × (List (Str × Int))) => G a.1 a.2.1 a.2.2) eI) : CallR (runDef 3 4 (b_worth GF)) (qC eD (qC eR (q1 (eM false D.str eI)))) (fun (a : D × (List Int) × (List (Str × Int))) => tb_worth G a.1 a.2.1 a.2.2) eI := by
  have c_G : ∀ {ρ : KEnv} {fs : DL.Env → Res (List D)} {x0 : D} {x1 : (List Int)} {x2 : (List (Str × Int))}, EvR ρ fs (.ok (x0, x1, x2)) (qC eD (qC eR (q1 (eM false D.str eI)))) → EvR ρ (eCall GF fs) (G x0 x1 x2) eI := fun {ρ fs x0 x1 x2} h => v_callp (t := fun a : D × (List Int) × (List (Str × Int)) => G a.1 a.2.1 a.2.2) (a := (x0, x1, x2)) r_G h
  have m_G : ∀ {ρ : KEnv} {fs : DL.Env → Res (List D)} {r : Res (D × (List Int) × (List (Str × Int)))}, EvR ρ fs r (qC eD (qC eR (q1 (eM false D.str eI)))) → EvR ρ (eCall GF fs) (r.bind fun a => G a.1 a.2.1 a.2.2) eI := fun h => v_call (t := fun a : D × (List Int) × (List (Str × Int)) => G a.1 a.2.1 a.2.2) r_G h
  rintro ⟨term, row, names⟩ _ ⟨d0, _, rfl, h0, ⟨d1, _, rfl, h1, ⟨d2, rfl, h2⟩⟩⟩
  refine r_def (n := 3) (m := 4) (k := 1) (ρ := ([some (sh eD term), some (sh eR row), some (sh (eM false D.str eI) names)] : KEnv)) (LeA.cons h0 (LeA.cons h1 (LeA.cons h2 LeA.nil))) rfl ?_
  exact (j_ifs (al := []) (b_test (v_op (o_rawB dEq) (v_opp ((o_raw dIx) _ _) (vS eD term 0) (vI 0)) (vT ("num" : Str)))) (j_assoc (j_retT (v_asI (v_opp ((o_raw dIx) _ _) (vS eD term 0) (vI 1))))) (j_skip (j_ifs (al := []) (b_test (v_op (o_rawB dEq) (v_opp ((o_raw dIx) _ _) (vS eD term 0) (vI 0)) (vT ("field" : Str)))) (j_assoc (j_retT (v_eqr (r := ((dIx term (D.int (1 : Int))).bind fun b6 => .ok (row, b6)).bind fun a => t_field_at a.1 a.2) (m_field_at (vq_c (vS eR row 1) (vq_1 (v_opp ((o_raw dIx) _ _) (vS eD term 0) (vI 1))))) (by first | (simp only [Res.assoc, Res.bind_ok]; done) | (simp only [Res.assoc, Res.bind_ok]; rfl))))) (j_skip (j_ifs (al := []) (b_test (v_op (o_rawB dEq) (v_opp ((o_raw dIx) _ _) (vS eD term 0) (vI 0)) (vT ("name" : Str)))) (j_assoc (j_retT (v_get2 KeyF.str (vS (eM false D.str eI) names 2) (v_keyS (v_asS (v_opp ((o_raw dIx) _ _) (vS eD term 0) (vI 1)))) (vN 0)))) (j_skip (j_retT (v_eqr (r := ((dIx term (D.int (0 : Int))).bind fun a15 => (((dCut (some (1 : Int)) none term).bind D.asItems).bind fun l14 => compR l14 (fun part13 => (G part13 row names))).bind fun b16 => .ok (a15, b16)).bind fun a => t_reckoned a.1 a.2) (m_reckoned (vq_c (v_opp ((o_raw dIx) _ _) (vS eD term 0) (vI 0)) (vq_1 (v_comp (ρb := fun part13 => ([some (sh eD term), some (sh eR row), some (sh (eM false D.str eI) names), some (sh eD part13)] : KEnv)) (v_seqD (v_cutD (vS eD term 0) (vo_s (vN 1)) vo_n)) (fun part13 => (p_nm (i := 3))) (fun part13 => (c_G (vq_cp (vS eD part13 3) (vq_cp (vS eR row 1) (vq_1 (vS (eM false D.str eI) names 2)))))))))) (by first | (simp only [Res.assoc, Res.bind_ok]; done) | (simp only [Res.assoc, Res.bind_ok]; rfl))))))))))
theorem ru_worth : ∀ j, CallR (R_worth j) (qC eD (qC eR (q1 (eM false D.str eI)))) (fun (a : D × (List Int) × (List (Str × Int))) => u_worth j a.1 a.2.1 a.2.2) eI
  | 0 => fun _ _ _ => trivial
  | j + 1 => rb_worth (ru_worth j)
theorem r_worth : CallR F_worth (qC eD (qC eR (q1 (eM false D.str eI)))) (fun (a : D × (List Int) × (List (Str × Int))) => t_worth a.1 a.2.1 a.2.2) eI := ru_worth _
theorem c_worth {ρ : KEnv} {fs : DL.Env → Res (List D)} {x0 : D} {x1 : (List Int)} {x2 : (List (Str × Int))} (h : EvR ρ fs (.ok (x0, x1, x2)) (qC eD (qC eR (q1 (eM false D.str eI))))) : EvR ρ (eCall F_worth fs) (t_worth x0 x1 x2) eI := v_callp (t := fun a : D × (List Int) × (List (Str × Int)) => t_worth a.1 a.2.1 a.2.2) (a := (x0, x1, x2)) r_worth h
noncomputable def t_kept_rows (term : D) (heap : (List (List Int))) (names : (List (Str × Int))) : Res (List (List Int)) :=
  (compF heap (fun row1 => ((t_worth term row1 names).bind fun a2 => .ok (decide (a2 ≠ (0 : Int))))) (fun row1 => (Res.ok row1)))
theorem r_kept_rows : CallR F_kept_rows (qC eD (qC (eT eR) (q1 (eM false D.str eI)))) (fun (a : D × (List (List Int)) × (List (Str × Int))) => t_kept_rows a.1 a.2.1 a.2.2) (eL eR) := by
  rintro ⟨term, heap, names⟩ _ ⟨d0, _, rfl, h0, ⟨d1, _, rfl, h1, ⟨d2, rfl, h2⟩⟩⟩
  refine r_def (n := 3) (m := 4) (k := 1) (ρ := ([some (sh eD term), some (sh (eT eR) heap), some (sh (eM false D.str eI) names)] : KEnv)) (LeA.cons h0 (LeA.cons h1 (LeA.cons h2 LeA.nil))) rfl ?_
  exact (j_retT (v_compFP (ρb := fun row1 => ([some (sh eD term), some (sh (eT eR) heap), some (sh (eM false D.str eI) names), some (sh eR row1)] : KEnv)) (v_seqT (vS (eT eR) heap 1)) (fun row1 => (p_nm (i := 3))) (fun row1 => (b_test (v_op (o_ne (EqE.int _)) (c_worth (vq_cp (vS eD term 0) (vq_cp (vS eR row1 3) (vq_1 (vS (eM false D.str eI) names 2))))) (vN 0)))) (fun row1 => (vS eR row1 3))))
theorem c_kept_rows {ρ : KEnv} {fs : DL.Env → Res (List D)} {x0 : D} {x1 : (List (List Int))} {x2 : (List (Str × Int))} (h : EvR ρ fs (.ok (x0, x1, x2)) (qC eD (qC (eT eR) (q1 (eM false D.str eI))))) : EvR ρ (eCall F_kept_rows fs) (t_kept_rows x0 x1 x2) (eL eR) := v_callp (t := fun a : D × (List (List Int)) × (List (Str × Int)) => t_kept_rows a.1 a.2.1 a.2.2) (a := (x0, x1, x2)) r_kept_rows h
theorem m_kept_rows {ρ : KEnv} {fs : DL.Env → Res (List D)} {r : Res (D × (List (List Int)) × (List (Str × Int)))} (h : EvR ρ fs r (qC eD (qC (eT eR) (q1 (eM false D.str eI))))) : EvR ρ (eCall F_kept_rows fs) (r.bind fun a => t_kept_rows a.1 a.2.1 a.2.2) (eL eR) := v_call (t := fun a : D × (List (List Int)) × (List (Str × Int)) => t_kept_rows a.1 a.2.1 a.2.2) r_kept_rows h
noncomputable def t_made_rows (lists : D) (heap : (List (List Int))) (names : (List (Str × Int))) : Res (List (List Int)) :=
  (forR heap ([] : List (List Int)) (fun row2 s1 =>
  ((D.asItems lists).bind fun l10 => forR l10 s1 (fun terms4 s3 =>
  (((D.asItems terms4).bind fun l7 => compR l7 (fun term6 => (t_worth term6 row2 names))).bind fun a9 => appR s3 a9).bind fun made5 =>
  Res.ok made5) : Res ((List (List Int)))).bind fun s3 =>
  Res.ok s3) : Res ((List (List Int)))).bind fun s1 =>
  Res.ok s1
theorem r_made_rows : CallR F_made_rows (qC eD (qC (eT eR) (q1 (eM false D.str eI)))) (fun (a : D × (List (List Int)) × (List (Str × Int))) => t_made_rows a.1 a.2.1 a.2.2) (eL eR) := by
  rintro ⟨lists, heap, names⟩ _ ⟨d0, _, rfl, h0, ⟨d1, _, rfl, h1, ⟨d2, rfl, h2⟩⟩⟩
  refine r_def (n := 3) (m := 7) (k := 4) (ρ := ([some (sh eD lists), some (sh (eT eR) heap), some (sh (eM false D.str eI) names)] : KEnv)) (LeA.cons h0 (LeA.cons h1 (LeA.cons h2 LeA.nil))) rfl ?_
  exact (j_go (g_setF (al := []) (v_lst (vl_nil (E := eR)))) (j_do (d_forP (al := []) (ρs := fun (s1 : ((List (List Int)))) => ([some (sh eD lists), some (sh (eT eR) heap), some (sh (eM false D.str eI) names), some (ow (eL eR) s1), none, none, none] : KEnv)) (ρb := fun row2 (s1 : ((List (List Int)))) => ([some (sh eD lists), some (sh (eT eR) heap), some (sh (eM false D.str eI) names), some (ow (eL eR) s1), some (sh eR row2), none, none] : KEnv)) (v_seqT (vS (eT eR) heap 1)) (Sb.same (Sb.same (Sb.same (Sb.same (Sb.drop (Sb.drop (Sb.drop Sb.nil))))))) (fun row2 s1 => (p_nm (i := 4))) (fun row2 s1 => (j_do (d_for (al := []) (ρs := fun (s3 : ((List (List Int)))) => ([some (sh eD lists), some (sh (eT eR) heap), some (sh (eM false D.str eI) names), some (ow (eL eR) s3), some (sh eR row2), none, none] : KEnv)) (ρb := fun terms4 (s3 : ((List (List Int)))) => ([some (sh eD lists), some (sh (eT eR) heap), some (sh (eM false D.str eI) names), some (ow (eL eR) s3), some (sh eR row2), some (sh eD terms4), none] : KEnv)) (v_seqD (vS eD lists 0)) (Sb.same (Sb.same (Sb.same (Sb.same (Sb.same (Sb.drop (Sb.drop Sb.nil))))))) (fun terms4 s3 => (p_nm (i := 5))) (fun terms4 s3 => (j_do (d_app (al := []) rfl (v_1i o_tupLR (v_comp (ρb := fun term6 => ([some (sh eD lists), some (sh (eT eR) heap), some (sh (eM false D.str eI) names), some (ow (eL eR) s3), some (sh eR row2), some (sh eD terms4), some (sh eD term6)] : KEnv)) (v_seqD (vS eD terms4 5)) (fun term6 => (p_nm (i := 6))) (fun term6 => (c_worth (vq_cp (vS eD term6 6) (vq_cp (vS eR row2 4) (vq_1 (vS (eM false D.str eI) names 2))))))))) (fun made5 => (j_endB (Sb.same (Sb.same (Sb.same (Sb.same (Sb.same (Sb.drop (Sb.drop Sb.nil)))))))))))) (fun s3 => (j_endB (Sb.same (Sb.same (Sb.same (Sb.same (Sb.drop (Sb.drop (Sb.drop Sb.nil)))))))))))) (fun s1 => (j_retT (v_o (E := (eL eR)) (a := s1) (i := 3) rfl)))))
theorem c_made_rows {ρ : KEnv} {fs : DL.Env → Res (List D)} {x0 : D} {x1 : (List (List Int))} {x2 : (List (Str × Int))} (h : EvR ρ fs (.ok (x0, x1, x2)) (qC eD (qC (eT eR) (q1 (eM false D.str eI))))) : EvR ρ (eCall F_made_rows fs) (t_made_rows x0 x1 x2) (eL eR) := v_callp (t := fun a : D × (List (List Int)) × (List (Str × Int)) => t_made_rows a.1 a.2.1 a.2.2) (a := (x0, x1, x2)) r_made_rows h
theorem m_made_rows {ρ : KEnv} {fs : DL.Env → Res (List D)} {r : Res (D × (List (List Int)) × (List (Str × Int)))} (h : EvR ρ fs r (qC eD (qC (eT eR) (q1 (eM false D.str eI))))) : EvR ρ (eCall F_made_rows fs) (r.bind fun a => t_made_rows a.1 a.2.1 a.2.2) (eL eR) := v_call (t := fun a : D × (List (List Int)) × (List (Str × Int)) => t_made_rows a.1 a.2.1 a.2.2) r_made_rows h
noncomputable def t_unlike_rows (heap : (List (List Int))) : Res (List (List Int)) :=
  (forR heap ([] : List (List Int)) (fun row2 s1 =>
  ((if ((s1.length : Nat) : Int) = (0 : Int) then .ok true else ((getL s1 (-(1 : Int))).bind fun a3 => .ok (decide (a3 ≠ row2)))).bind fun z => if z = true then (appR s1 row2).bind fun made6 =>
  Res.ok made6 else Res.ok s1 : Res ((List (List Int)))).bind fun z5 =>
  Res.ok z5) : Res ((List (List Int)))).bind fun s1 =>
  Res.ok s1
theorem r_unlike_rows : CallR F_unlike_rows (q1 (eT eR)) (fun (a : (List (List Int))) => t_unlike_rows a) (eL eR) := by
  rintro heap _ ⟨d0, rfl, h0⟩
  refine r_def (n := 1) (m := 3) (k := 2) (ρ := ([some (sh (eT eR) heap)] : KEnv)) (LeA.cons h0 LeA.nil) rfl ?_
  exact (j_go (g_setF (al := []) (v_lst (vl_nil (E := eR)))) (j_do (d_forP (al := []) (ρs := fun (s1 : ((List (List Int)))) => ([some (sh (eT eR) heap), some (ow (eL eR) s1), none] : KEnv)) (ρb := fun row2 (s1 : ((List (List Int)))) => ([some (sh (eT eR) heap), some (ow (eL eR) s1), some (sh eR row2)] : KEnv)) (v_seqT (vS (eT eR) heap 0)) (Sb.same (Sb.same (Sb.drop Sb.nil))) (fun row2 s1 => (p_nm (i := 2))) (fun row2 s1 => (j_do (j_if (P := PN fun (z5 : ((List (List Int)))) => ([some (sh (eT eR) heap), some (ow (eL eR) z5), some (sh eR row2)] : KEnv)) (al := []) (b_orM (b_test (v_opp ((o_eq (EqE.int _)) _ _) (v_1p (o_lenL _) (v_o (E := (eL eR)) (a := s1) (i := 1) rfl)) (vN 0))) (b_test (v_op (o_ne (EqE.row _)) (v_opp (o_ixL _ _) (v_o (E := (eL eR)) (a := s1) (i := 1) rfl) (v_neg (vN 1))) (vS eR row2 2)))) (j_do (d_appP (al := []) rfl (vS eR row2 2)) (fun made6 => (j_end (Sb.same (Sb.same (Sb.same Sb.nil)))))) (j_end (Sb.same (Sb.same (Sb.same Sb.nil))))) (fun z5 => (j_endB (Sb.same (Sb.same (Sb.drop Sb.nil)))))))) (fun s1 => (j_retT (v_o (E := (eL eR)) (a := s1) (i := 1) rfl)))))
theorem c_unlike_rows {ρ : KEnv} {fs : DL.Env → Res (List D)} {x0 : (List (List Int))} (h : EvR ρ fs (.ok x0) (q1 (eT eR))) : EvR ρ (eCall F_unlike_rows fs) (t_unlike_rows x0) (eL eR) := v_callp (t := fun a : (List (List Int)) => t_unlike_rows a) (a := x0) r_unlike_rows h
noncomputable def t_capped_rows (term : D) (many : D) (heap : (List (List Int))) (names : (List (Str × Int))) : Res (List (List Int)) :=
  (Res.ok ([] : (List (Int × Int)))).bind fun met1 =>
  (forR heap (met1, ([] : List (List Int))) (fun row3 s2 =>
  (t_worth term row3 names).bind fun key4 =>
  (putDR s2.1 key4 (((getG s2.1 key4).getD (0 : Int)) + (1 : Int))).bind fun met5 =>
  (((atG met5 key4).bind fun a6 => (D.asI many).bind fun b7 => .ok (decide (a6 ≤ b7))).bind fun z => if z = true then (appR s2.2 row3).bind fun made9 =>
  Res.ok made9 else Res.ok s2.2 : Res ((List (List Int)))).bind fun z8 =>
  Res.ok (met5, z8)) : Res ((List (Int × Int)) × (List (List Int)))).bind fun s2 =>
  Res.ok s2.2
theorem r_capped_rows : CallR F_capped_rows (qC eD (qC eD (qC (eT eR) (q1 (eM false D.str eI))))) (fun (a : D × D × (List (List Int)) × (List (Str × Int))) => t_capped_rows a.1 a.2.1 a.2.2.1 a.2.2.2) (eL eR) := by
  rintro ⟨term, many, heap, names⟩ _ ⟨d0, _, rfl, h0, ⟨d1, _, rfl, h1, ⟨d2, _, rfl, h2, ⟨d3, rfl, h3⟩⟩⟩⟩
  refine r_def (n := 4) (m := 8) (k := 4) (ρ := ([some (sh eD term), some (sh eD many), some (sh (eT eR) heap), some (sh (eM false D.str eI) names)] : KEnv)) (LeA.cons h0 (LeA.cons h1 (LeA.cons h2 (LeA.cons h3 LeA.nil)))) rfl ?_
  exact (j_do (d_setF (al := []) v_dnew) (fun met1 => (j_go (g_setF (al := []) (v_lst (vl_nil (E := eR)))) (j_do (d_forP (al := []) (ρs := fun (s2 : ((List (Int × Int)) × (List (List Int)))) => ([some (sh eD term), some (sh eD many), some (sh (eT eR) heap), some (sh (eM false D.str eI) names), some (ow (eM false D.int eI) s2.1), some (ow (eL eR) s2.2), none, none] : KEnv)) (ρb := fun row3 (s2 : ((List (Int × Int)) × (List (List Int)))) => ([some (sh eD term), some (sh eD many), some (sh (eT eR) heap), some (sh (eM false D.str eI) names), some (ow (eM false D.int eI) s2.1), some (ow (eL eR) s2.2), some (sh eR row3), none] : KEnv)) (v_seqT (vS (eT eR) heap 2)) (Sb.same (Sb.same (Sb.same (Sb.same (Sb.same (Sb.same (Sb.drop (Sb.drop Sb.nil)))))))) (fun row3 s2 => (p_nm (i := 6))) (fun row3 s2 => (j_do (d_set (al := []) (c_worth (vq_cp (vS eD term 0) (vq_cp (vS eR row3 6) (vq_1 (vS (eM false D.str eI) names 3)))))) (fun key4 => (j_do (ρs := fun met5 => ([some (sh eD term), some (sh eD many), some (sh (eT eR) heap), some (sh (eM false D.str eI) names), some (ow (eM false D.int eI) met5), some (ow (eL eR) s2.2), some (sh eR row3), some (sh eI key4)] : KEnv)) (d_putDP KeyF.int (al := []) rfl (v_keyI (vS eI key4 7)) (v_opp (o_add _ _) (v_get2p KeyF.int (v_o (E := (eM false D.int eI)) (a := s2.1) (i := 4) rfl) (v_keyI (vS eI key4 7)) (vN 0)) (vN 1))) (fun met5 => (j_do (j_if (P := PN fun (z8 : ((List (List Int)))) => ([some (sh eD term), some (sh eD many), some (sh (eT eR) heap), some (sh (eM false D.str eI) names), some (ow (eM false D.int eI) met5), some (ow (eL eR) z8), some (sh eR row3), some (sh eI key4)] : KEnv)) (al := []) (b_test (v_op o_le (v_opp ((o_at KeyF.int) _ _) (v_o (E := (eM false D.int eI)) (a := met5) (i := 4) rfl) (v_keyI (vS eI key4 7))) (v_asI (vS eD many 1)))) (j_do (d_appP (al := []) rfl (vS eR row3 6)) (fun made9 => (j_end (Sb.same (Sb.same (Sb.same (Sb.same (Sb.same (Sb.same (Sb.same (Sb.same Sb.nil))))))))))) (j_end (Sb.same (Sb.same (Sb.same (Sb.same (Sb.same (Sb.same (Sb.same (Sb.same Sb.nil)))))))))) (fun z8 => (j_endB (Sb.same (Sb.same (Sb.same (Sb.same (Sb.same (Sb.same (Sb.drop (Sb.drop Sb.nil))))))))))))))))) (fun s2 => (j_retT (v_o (E := (eL eR)) (a := s2.2) (i := 5) rfl)))))))
theorem c_capped_rows {ρ : KEnv} {fs : DL.Env → Res (List D)} {x0 : D} {x1 : D} {x2 : (List (List Int))} {x3 : (List (Str × Int))} (h : EvR ρ fs (.ok (x0, x1, x2, x3)) (qC eD (qC eD (qC (eT eR) (q1 (eM false D.str eI)))))) : EvR ρ (eCall F_capped_rows fs) (t_capped_rows x0 x1 x2 x3) (eL eR) := v_callp (t := fun a : D × D × (List (List Int)) × (List (Str × Int)) => t_capped_rows a.1 a.2.1 a.2.2.1 a.2.2.2) (a := (x0, x1, x2, x3)) r_capped_rows h
theorem m_capped_rows {ρ : KEnv} {fs : DL.Env → Res (List D)} {r : Res (D × D × (List (List Int)) × (List (Str × Int)))} (h : EvR ρ fs r (qC eD (qC eD (qC (eT eR) (q1 (eM false D.str eI)))))) : EvR ρ (eCall F_capped_rows fs) (r.bind fun a => t_capped_rows a.1 a.2.1 a.2.2.1 a.2.2.2) (eL eR) := v_call (t := fun a : D × D × (List (List Int)) × (List (Str × Int)) => t_capped_rows a.1 a.2.1 a.2.2.1 a.2.2.2) r_capped_rows h
noncomputable def t_matched_rows (pairs : D) (term : D) (heap : (List (List Int))) (names : (List (Str × Int))) : Res (List (List Int)) :=
  (forR heap ([] : List (List Int)) (fun row2 s1 =>
  (t_worth term row2 names).bind fun key3 =>
  (((D.asItems pairs).bind asTups2).bind fun l11 => forR l11 s1 (fun z5 s4 =>
  ((rawB (dEq z5.1 (D.int key3))).bind fun z => if z = true then (((D.asR z5.2).bind fun b9 => (catR row2 b9)).bind fun a10 => appR s4 a10).bind fun made7 =>
  Res.ok made7 else Res.ok s4 : Res ((List (List Int)))).bind fun z6 =>
  Res.ok z6) : Res ((List (List Int)))).bind fun s4 =>
  Res.ok s4) : Res ((List (List Int)))).bind fun s1 =>
  Res.ok s1
theorem r_matched_rows : CallR F_matched_rows (qC eD (qC eD (qC (eT eR) (q1 (eM false D.str eI))))) (fun (a : D × D × (List (List Int)) × (List (Str × Int))) => t_matched_rows a.1 a.2.1 a.2.2.1 a.2.2.2) (eL eR) := by
  rintro ⟨pairs, term, heap, names⟩ _ ⟨d0, _, rfl, h0, ⟨d1, _, rfl, h1, ⟨d2, _, rfl, h2, ⟨d3, rfl, h3⟩⟩⟩⟩
  refine r_def (n := 4) (m := 9) (k := 5) (ρ := ([some (sh eD pairs), some (sh eD term), some (sh (eT eR) heap), some (sh (eM false D.str eI) names)] : KEnv)) (LeA.cons h0 (LeA.cons h1 (LeA.cons h2 (LeA.cons h3 LeA.nil)))) rfl ?_
  exact (j_go (g_setF (al := []) (v_lst (vl_nil (E := eR)))) (j_do (d_forP (al := []) (ρs := fun (s1 : ((List (List Int)))) => ([some (sh eD pairs), some (sh eD term), some (sh (eT eR) heap), some (sh (eM false D.str eI) names), some (ow (eL eR) s1), none, none, none, none] : KEnv)) (ρb := fun row2 (s1 : ((List (List Int)))) => ([some (sh eD pairs), some (sh eD term), some (sh (eT eR) heap), some (sh (eM false D.str eI) names), some (ow (eL eR) s1), some (sh eR row2), none, none, none] : KEnv)) (v_seqT (vS (eT eR) heap 2)) (Sb.same (Sb.same (Sb.same (Sb.same (Sb.same (Sb.drop (Sb.drop (Sb.drop (Sb.drop Sb.nil))))))))) (fun row2 s1 => (p_nm (i := 5))) (fun row2 s1 => (j_do (d_set (al := []) (c_worth (vq_cp (vS eD term 1) (vq_cp (vS eR row2 5) (vq_1 (vS (eM false D.str eI) names 3)))))) (fun key3 => (j_do (d_for (al := []) (ρs := fun (s4 : ((List (List Int)))) => ([some (sh eD pairs), some (sh eD term), some (sh (eT eR) heap), some (sh (eM false D.str eI) names), some (ow (eL eR) s4), some (sh eR row2), some (sh eI key3), none, none] : KEnv)) (ρb := fun z5 (s4 : ((List (List Int)))) => ([some (sh eD pairs), some (sh eD term), some (sh (eT eR) heap), some (sh (eM false D.str eI) names), some (ow (eL eR) s4), some (sh eR row2), some (sh eI key3), some (sh eD z5.1), some (sh eD z5.2)] : KEnv)) (v_tups2 (v_seqD (vS eD pairs 0))) (Sb.same (Sb.same (Sb.same (Sb.same (Sb.same (Sb.same (Sb.same (Sb.drop (Sb.drop Sb.nil))))))))) (fun z5 s4 => (p_tp (ps_c' (p_nm (i := 7)) (ps_1 (p_nm (i := 8)))))) (fun z5 s4 => (j_do (j_if (P := PN fun (z6 : ((List (List Int)))) => ([some (sh eD pairs), some (sh eD term), some (sh (eT eR) heap), some (sh (eM false D.str eI) names), some (ow (eL eR) z6), some (sh eR row2), some (sh eI key3), some (sh eD z5.1), some (sh eD z5.2)] : KEnv)) (al := []) (b_test (v_opp ((o_rawB dEq) _ _) (vS eD z5.1 7) (v_castF (f := D.int) Fun.int (vS eI key3 6)))) (j_do (d_app (al := []) rfl (v_op o_catR (vS eR row2 5) (v_asR (vS eD z5.2 8)))) (fun made7 => (j_end (Sb.same (Sb.same (Sb.same (Sb.same (Sb.same (Sb.same (Sb.same (Sb.same (Sb.same Sb.nil)))))))))))) (j_end (Sb.same (Sb.same (Sb.same (Sb.same (Sb.same (Sb.same (Sb.same (Sb.same (Sb.same Sb.nil))))))))))) (fun z6 => (j_endB (Sb.same (Sb.same (Sb.same (Sb.same (Sb.same (Sb.same (Sb.same (Sb.drop (Sb.drop Sb.nil)))))))))))))) (fun s4 => (j_endB (Sb.same (Sb.same (Sb.same (Sb.same (Sb.same (Sb.drop (Sb.drop (Sb.drop (Sb.drop Sb.nil)))))))))))))))) (fun s1 => (j_retT (v_o (E := (eL eR)) (a := s1) (i := 4) rfl)))))
theorem c_matched_rows {ρ : KEnv} {fs : DL.Env → Res (List D)} {x0 : D} {x1 : D} {x2 : (List (List Int))} {x3 : (List (Str × Int))} (h : EvR ρ fs (.ok (x0, x1, x2, x3)) (qC eD (qC eD (qC (eT eR) (q1 (eM false D.str eI)))))) : EvR ρ (eCall F_matched_rows fs) (t_matched_rows x0 x1 x2 x3) (eL eR) := v_callp (t := fun a : D × D × (List (List Int)) × (List (Str × Int)) => t_matched_rows a.1 a.2.1 a.2.2.1 a.2.2.2) (a := (x0, x1, x2, x3)) r_matched_rows h
theorem m_matched_rows {ρ : KEnv} {fs : DL.Env → Res (List D)} {r : Res (D × D × (List (List Int)) × (List (Str × Int)))} (h : EvR ρ fs r (qC eD (qC eD (qC (eT eR) (q1 (eM false D.str eI)))))) : EvR ρ (eCall F_matched_rows fs) (r.bind fun a => t_matched_rows a.1 a.2.1 a.2.2.1 a.2.2.2) (eL eR) := v_call (t := fun a : D × D × (List (List Int)) × (List (Str × Int)) => t_matched_rows a.1 a.2.1 a.2.2.1 a.2.2.2) r_matched_rows h
noncomputable def tb_heap_of (G : D → (List (List Int)) → (List (Str × Int)) → Res (List (List Int))) (view : D) (table : (List (List Int))) (names : (List (Str × Int))) : Res (List (List Int)) :=
  (dIx view (D.int (0 : Int))).bind fun kind1 =>
  (rawB (dEq kind1 (D.str ("all" : Str)))).bind fun z => if z = true then
  Res.ok table
else
  (rawB (dEq kind1 (D.str ("both" : Str)))).bind fun z => if z = true then
  ((((dIx view (D.int (1 : Int))).bind fun a4 => G a4 table names).bind fun a12 => ((dIx view (D.int (2 : Int))).bind fun a9 => G a9 table names).bind fun b13 => (catR a12 b13)).bind fun a14 => (sortKR a14))
else
  ((dIx view (D.int (-(1 : Int)))).bind fun a18 => G a18 table names).bind fun heap21 =>
  ((rawB (dEq kind1 (D.str ("keep" : Str)))).bind fun z => if z = true then ((dIx view (D.int (1 : Int))).bind fun a25 => t_kept_rows a25 heap21 names).bind fun made28 =>
  Res.ok made28 else ((rawB (dEq kind1 (D.str ("rows" : Str)))).bind fun z => if z = true then ((dIx view (D.int (1 : Int))).bind fun a32 => t_made_rows a32 heap21 names).bind fun made35 =>
  Res.ok made35 else ((rawB (dEq kind1 (D.str ("unlike" : Str)))).bind fun z => if z = true then (t_unlike_rows heap21).bind fun made37 =>
  Res.ok made37 else ((rawB (dEq kind1 (D.str ("cap" : Str)))).bind fun z => if z = true then ((dIx view (D.int (1 : Int))).bind fun a43 => (dIx view (D.int (2 : Int))).bind fun a44 => t_capped_rows a43 a44 heap21 names).bind fun made47 =>
  Res.ok made47 else ((dIx view (D.int (1 : Int))).bind fun a52 => (dIx view (D.int (2 : Int))).bind fun a53 => t_matched_rows a52 a53 heap21 names).bind fun made56 =>
  Res.ok made56 : Res ((List (List Int)))).bind fun z38 =>
  Res.ok z38 : Res ((List (List Int)))).bind fun z36 =>
  Res.ok z36 : Res ((List (List Int)))).bind fun z29 =>
  Res.ok z29 : Res ((List (List Int)))).bind fun z22 =>
  (sortKR z22)
noncomputable def u_heap_of : Nat → D → (List (List Int)) → (List (Str × Int)) → Res (List (List Int))
  | 0 => fun _ _ _ => .bad
  | j + 1 => tb_heap_of (u_heap_of j)
noncomputable def t_heap_of : D → (List (List Int)) → (List (Str × Int)) → Res (List (List Int)) := u_heap_of 12
theorem rb_heap_of {GF : List D → Res D} {G : D → (List (List Int)) → (List (Str × Int)) → Res (List (List Int))} (r_G : CallR GF (qC eD (qC (eT eR) (q1 (eM false D.str eI)))) (fun (a : D × (List (List Int)) × (List (Str × Int))) => G a.1 a.2.1 a.2.2) (eT eR)) : CallR (runDef 3 6 (b_heap_of GF)) (qC eD (qC (eT eR) (q1 (eM false D.str eI)))) (fun (a : D × (List (List Int)) × (List (Str × Int))) => tb_heap_of G a.1 a.2.1 a.2.2) (eT eR) := by
  have c_G : ∀ {ρ : KEnv} {fs : DL.Env → Res (List D)} {x0 : D} {x1 : (List (List Int))} {x2 : (List (Str × Int))}, EvR ρ fs (.ok (x0, x1, x2)) (qC eD (qC (eT eR) (q1 (eM false D.str eI)))) → EvR ρ (eCall GF fs) (G x0 x1 x2) (eT eR) := fun {ρ fs x0 x1 x2} h => v_callp (t := fun a : D × (List (List Int)) × (List (Str × Int)) => G a.1 a.2.1 a.2.2) (a := (x0, x1, x2)) r_G h
  have m_G : ∀ {ρ : KEnv} {fs : DL.Env → Res (List D)} {r : Res (D × (List (List Int)) × (List (Str × Int)))}, EvR ρ fs r (qC eD (qC (eT eR) (q1 (eM false D.str eI)))) → EvR ρ (eCall GF fs) (r.bind fun a => G a.1 a.2.1 a.2.2) (eT eR) := fun h => v_call (t := fun a : D × (List (List Int)) × (List (Str × Int)) => G a.1 a.2.1 a.2.2) r_G h
  rintro ⟨view, table, names⟩ _ ⟨d0, _, rfl, h0, ⟨d1, _, rfl, h1, ⟨d2, rfl, h2⟩⟩⟩
  refine r_def (n := 3) (m := 6) (k := 3) (ρ := ([some (sh eD view), some (sh (eT eR) table), some (sh (eM false D.str eI) names)] : KEnv)) (LeA.cons h0 (LeA.cons h1 (LeA.cons h2 LeA.nil))) rfl ?_
  exact (j_do (d_set (al := []) (v_opp ((o_raw dIx) _ _) (vS eD view 0) (vI 0))) (fun kind1 => (j_ifs (al := []) (b_test (v_opp ((o_rawB dEq) _ _) (vS eD kind1 3) (vT ("all" : Str)))) (j_assoc (j_retT (v_1p (o_tupT _) (vS (eT eR) table 1)))) (j_skip (j_ifs (al := []) (b_test (v_opp ((o_rawB dEq) _ _) (vS eD kind1 3) (vT ("both" : Str)))) (j_assoc (j_retT (v_1i o_tupL (v_1 o_sortTK (v_op o_catT (v_eqr (r := ((dIx view (D.int (1 : Int))).bind fun a2 => .ok (a2, table, names)).bind fun a => G a.1 a.2.1 a.2.2) (m_G (vq_c (v_opp ((o_raw dIx) _ _) (vS eD view 0) (vI 1)) (vq_cp (vS (eT eR) table 1) (vq_1 (vS (eM false D.str eI) names 2))))) (by first | (simp only [Res.assoc, Res.bind_ok]; done) | (simp only [Res.assoc, Res.bind_ok]; rfl))) (v_eqr (r := ((dIx view (D.int (2 : Int))).bind fun a7 => .ok (a7, table, names)).bind fun a => G a.1 a.2.1 a.2.2) (m_G (vq_c (v_opp ((o_raw dIx) _ _) (vS eD view 0) (vI 2)) (vq_cp (vS (eT eR) table 1) (vq_1 (vS (eM false D.str eI) names 2))))) (by first | (simp only [Res.assoc, Res.bind_ok]; done) | (simp only [Res.assoc, Res.bind_ok]; rfl)))))))) (j_skip (j_do (d_set (al := []) (v_eqr (r := ((dIx view (D.int (-(1 : Int)))).bind fun a16 => .ok (a16, table, names)).bind fun a => G a.1 a.2.1 a.2.2) (m_G (vq_c (v_opp ((o_raw dIx) _ _) (vS eD view 0) (v_castF (f := D.int) Fun.int (v_neg (vN 1)))) (vq_cp (vS (eT eR) table 1) (vq_1 (vS (eM false D.str eI) names 2))))) (by first | (simp only [Res.assoc, Res.bind_ok]; done) | (simp only [Res.assoc, Res.bind_ok]; rfl)))) (fun heap21 => (j_do (j_if (P := PN fun (z22 : ((List (List Int)))) => ([some (sh eD view), some (sh (eT eR) table), some (sh (eM false D.str eI) names), some (sh eD kind1), some (sh (eT eR) heap21), some (sh (eL eR) z22)] : KEnv)) (al := []) (b_test (v_opp ((o_rawB dEq) _ _) (vS eD kind1 3) (vT ("keep" : Str)))) (j_do (d_set (al := []) (v_eqr (r := ((dIx view (D.int (1 : Int))).bind fun a23 => .ok (a23, heap21, names)).bind fun a => t_kept_rows a.1 a.2.1 a.2.2) (m_kept_rows (vq_c (v_opp ((o_raw dIx) _ _) (vS eD view 0) (vI 1)) (vq_cp (vS (eT eR) heap21 4) (vq_1 (vS (eM false D.str eI) names 2))))) (by first | (simp only [Res.assoc, Res.bind_ok]; done) | (simp only [Res.assoc, Res.bind_ok]; rfl)))) (fun made28 => (j_end (Sb.same (Sb.same (Sb.same (Sb.same (Sb.same (Sb.same Sb.nil))))))))) (j_do (j_if (P := PN fun (z29 : ((List (List Int)))) => ([some (sh eD view), some (sh (eT eR) table), some (sh (eM false D.str eI) names), some (sh eD kind1), some (sh (eT eR) heap21), some (sh (eL eR) z29)] : KEnv)) (al := []) (b_test (v_opp ((o_rawB dEq) _ _) (vS eD kind1 3) (vT ("rows" : Str)))) (j_do (d_set (al := []) (v_eqr (r := ((dIx view (D.int (1 : Int))).bind fun a30 => .ok (a30, heap21, names)).bind fun a => t_made_rows a.1 a.2.1 a.2.2) (m_made_rows (vq_c (v_opp ((o_raw dIx) _ _) (vS eD view 0) (vI 1)) (vq_cp (vS (eT eR) heap21 4) (vq_1 (vS (eM false D.str eI) names 2))))) (by first | (simp only [Res.assoc, Res.bind_ok]; done) | (simp only [Res.assoc, Res.bind_ok]; rfl)))) (fun made35 => (j_end (Sb.same (Sb.same (Sb.same (Sb.same (Sb.same (Sb.same Sb.nil))))))))) (j_do (j_if (P := PN fun (z36 : ((List (List Int)))) => ([some (sh eD view), some (sh (eT eR) table), some (sh (eM false D.str eI) names), some (sh eD kind1), some (sh (eT eR) heap21), some (sh (eL eR) z36)] : KEnv)) (al := []) (b_test (v_opp ((o_rawB dEq) _ _) (vS eD kind1 3) (vT ("unlike" : Str)))) (j_do (d_set (al := []) (c_unlike_rows (vq_1 (vS (eT eR) heap21 4)))) (fun made37 => (j_end (Sb.same (Sb.same (Sb.same (Sb.same (Sb.same (Sb.same Sb.nil))))))))) (j_do (j_if (P := PN fun (z38 : ((List (List Int)))) => ([some (sh eD view), some (sh (eT eR) table), some (sh (eM false D.str eI) names), some (sh eD kind1), some (sh (eT eR) heap21), some (sh (eL eR) z38)] : KEnv)) (al := []) (b_test (v_opp ((o_rawB dEq) _ _) (vS eD kind1 3) (vT ("cap" : Str)))) (j_do (d_set (al := []) (v_eqr (r := ((dIx view (D.int (1 : Int))).bind fun a41 => ((dIx view (D.int (2 : Int))).bind fun a39 => .ok (a39, heap21, names)).bind fun b42 => .ok (a41, b42)).bind fun a => t_capped_rows a.1 a.2.1 a.2.2.1 a.2.2.2) (m_capped_rows (vq_c (v_opp ((o_raw dIx) _ _) (vS eD view 0) (vI 1)) (vq_c (v_opp ((o_raw dIx) _ _) (vS eD view 0) (vI 2)) (vq_cp (vS (eT eR) heap21 4) (vq_1 (vS (eM false D.str eI) names 2)))))) (by first | (simp only [Res.assoc, Res.bind_ok]; done) | (simp only [Res.assoc, Res.bind_ok]; rfl)))) (fun made47 => (j_end (Sb.same (Sb.same (Sb.same (Sb.same (Sb.same (Sb.same Sb.nil))))))))) (j_do (d_set (al := []) (v_eqr (r := ((dIx view (D.int (1 : Int))).bind fun a50 => ((dIx view (D.int (2 : Int))).bind fun a48 => .ok (a48, heap21, names)).bind fun b51 => .ok (a50, b51)).bind fun a => t_matched_rows a.1 a.2.1 a.2.2.1 a.2.2.2) (m_matched_rows (vq_c (v_opp ((o_raw dIx) _ _) (vS eD view 0) (vI 1)) (vq_c (v_opp ((o_raw dIx) _ _) (vS eD view 0) (vI 2)) (vq_cp (vS (eT eR) heap21 4) (vq_1 (vS (eM false D.str eI) names 2)))))) (by first | (simp only [Res.assoc, Res.bind_ok]; done) | (simp only [Res.assoc, Res.bind_ok]; rfl)))) (fun made56 => (j_end (Sb.same (Sb.same (Sb.same (Sb.same (Sb.same (Sb.same Sb.nil)))))))))) (fun z38 => (j_end (Sb.same (Sb.same (Sb.same (Sb.same (Sb.same (Sb.same Sb.nil)))))))))) (fun z36 => (j_end (Sb.same (Sb.same (Sb.same (Sb.same (Sb.same (Sb.same Sb.nil)))))))))) (fun z29 => (j_end (Sb.same (Sb.same (Sb.same (Sb.same (Sb.same (Sb.same Sb.nil)))))))))) (fun z22 => (j_retT (v_1i o_tupL (v_1p (o_sortLK _) (vS (eL eR) z22 5))))))))))))))
theorem ru_heap_of : ∀ j, CallR (R_heap_of j) (qC eD (qC (eT eR) (q1 (eM false D.str eI)))) (fun (a : D × (List (List Int)) × (List (Str × Int))) => u_heap_of j a.1 a.2.1 a.2.2) (eT eR)
  | 0 => fun _ _ _ => trivial
  | j + 1 => rb_heap_of (ru_heap_of j)
theorem r_heap_of : CallR F_heap_of (qC eD (qC (eT eR) (q1 (eM false D.str eI)))) (fun (a : D × (List (List Int)) × (List (Str × Int))) => t_heap_of a.1 a.2.1 a.2.2) (eT eR) := ru_heap_of _
theorem c_heap_of {ρ : KEnv} {fs : DL.Env → Res (List D)} {x0 : D} {x1 : (List (List Int))} {x2 : (List (Str × Int))} (h : EvR ρ fs (.ok (x0, x1, x2)) (qC eD (qC (eT eR) (q1 (eM false D.str eI))))) : EvR ρ (eCall F_heap_of fs) (t_heap_of x0 x1 x2) (eT eR) := v_callp (t := fun a : D × (List (List Int)) × (List (Str × Int)) => t_heap_of a.1 a.2.1 a.2.2) (a := (x0, x1, x2)) r_heap_of h
noncomputable def t_l_good (found : (List (List Int))) (wide : Int) : Res Bool :=
  if ¬ (true = true) then
  Res.ok false
else
  thenX (forX found () (fun row2 s1 =>
  if ((¬ (true = true)) ∨ (((row2.length : Nat) : Int) ≠ wide)) then
  Res.ok (.rt false)
else
  thenX (forX row2 () (fun n4 s3 =>
  if ((¬ (true = true)) ∨ (false = true)) then
  Res.ok (.rt false)
else
  Res.ok (.nx ())) : Res (Oc Unit Bool)) .rt fun s3 =>
  Res.ok (.nx ())) : Res (Oc Unit Bool)) (fun v => v) fun s1 =>
  ((sortKR found).bind fun b6 => .ok (decide (found = b6)))
theorem r_l_good : CallR F_l_good (qC (eT eR) (q1 eI)) (fun (a : (List (List Int)) × Int) => t_l_good a.1 a.2) eB := by
  rintro ⟨found, wide⟩ _ ⟨d0, _, rfl, h0, ⟨d1, rfl, h1⟩⟩
  refine r_def (n := 2) (m := 4) (k := 2) (ρ := ([some (sh (eT eR) found), some (sh eI wide)] : KEnv)) (LeA.cons h0 (LeA.cons h1 LeA.nil)) rfl ?_
  exact (j_ifsP (al := []) (b_notP (b_P (b_truB (v_1p (isTup_Tup _) (vS (eT eR) found 0))))) (j_assoc (j_retT (v_c (E := eB) (a := false) rfl))) (j_skip (j_xT (d_forXP (E' := eB) (al := []) (ρs := fun (s1 : Unit) => ([some (sh (eT eR) found), some (sh eI wide), none, none] : KEnv)) (ρb := fun row2 (s1 : Unit) => ([some (sh (eT eR) found), some (sh eI wide), some (sh eR row2), none] : KEnv)) (v_seqT (vS (eT eR) found 0)) (Sb.same (Sb.same (Sb.drop (Sb.drop Sb.nil)))) (fun row2 s1 => (p_nm (i := 2))) (fun row2 s1 => (j_ifsP (al := []) (b_orP (b_notP (b_P (b_truB (v_1p (isTup_Row _) (vS eR row2 2))))) (b_test (v_opp ((o_ne (EqE.int _)) _ _) (v_1p (o_lenR _) (vS eR row2 2)) (vS eI wide 1)))) (j_assoc (j_retL (v_c (E := eB) (a := false) rfl))) (j_skip (j_xL (d_forXP (E' := eB) (al := []) (ρs := fun (s3 : Unit) => ([some (sh (eT eR) found), some (sh eI wide), some (sh eR row2), none] : KEnv)) (ρb := fun n4 (s3 : Unit) => ([some (sh (eT eR) found), some (sh eI wide), some (sh eR row2), some (sh eI n4)] : KEnv)) (v_seqR (vS eR row2 2)) (Sb.same (Sb.same (Sb.same (Sb.drop Sb.nil)))) (fun n4 s3 => (p_nm (i := 3))) (fun n4 s3 => (j_ifsP (al := []) (b_orP (b_notP (b_P (b_truB (v_1p (isInt_Int _) (vS eI n4 3))))) (b_P (b_truB (v_1p (isBool_Int _) (vS eI n4 3))))) (j_assoc (j_retL (v_c (E := eB) (a := false) rfl))) (j_skip (j_endL (Sb.same (Sb.same (Sb.same (Sb.drop Sb.nil))))))))) (fun s3 => (j_endL (Sb.same (Sb.same (Sb.drop (Sb.drop Sb.nil))))))))))) (fun s1 => (j_retT (v_op (o_eq (EqE.lst (EqE.row _))) (v_1p (o_lstT _) (vS (eT eR) found 0)) (v_1p (o_sortTK _) (vS (eT eR) found 0))))))))
theorem c_l_good {ρ : KEnv} {fs : DL.Env → Res (List D)} {x0 : (List (List Int))} {x1 : Int} (h : EvR ρ fs (.ok (x0, x1)) (qC (eT eR) (q1 eI))) : EvR ρ (eCall F_l_good fs) (t_l_good x0 x1) eB := v_callp (t := fun a : (List (List Int)) × Int => t_l_good a.1 a.2) (a := (x0, x1)) r_l_good h
open Classical in
noncomputable def grpI (s : List (Int × List (List Int))) (k : Int) (row : List Int) : List (Int × List (List Int)) := match getG s k with
  | some rs => putG s k (rs ++ [row])
  | none => s ++ [(k, [row])]
/-- so as the dict's places hold them -/
def grpM (s : List (Int × List (List Int))) : List (Key × List D) := s.map fun q => (Sum.inl q.1, q.2.map ans)
theorem grp_get' (s : List (Int × List (List Int))) (k : Int) : getG (grpM s) (Sum.inl k) = (getG s k).map fun l => l.map ans := by
  unfold grpM
  induction s with
  | nil => rfl
  | cons q s ih =>
    unfold getG at *
    rw [List.map_cons, List.find?_cons, List.find?_cons]
    by_cases h : q.1 = k
    · rw [decide_eq_true h, decide_eq_true (by rw [h])]; rfl
    · rw [decide_eq_false h, decide_eq_false (fun z => h (by injection z))]; exact ih
theorem grp_put' (s : List (Int × List (List Int))) (k : Int) (row : List Int) : grpPut (grpM s) (Sum.inl k) (ans row) = grpM (grpI s k row) := by
  unfold grpPut grpI
  rw [grp_get']
  cases e : getG s k with
  | none => unfold grpM; rw [List.map_append]; rfl
  | some rs =>
    show putG (grpM s) (Sum.inl k) (rs.map ans ++ [ans row]) = grpM (putG s k (rs ++ [row]))
    have hk : (s.any fun p => decide (p.1 = k)) = true := by
      unfold getG at e
      obtain ⟨q, hq, _⟩ := Option.map_eq_some_iff.mp e
      exact List.any_eq_true.mpr ⟨q, List.mem_of_find?_eq_some hq, by simpa using List.find?_some hq⟩
    have hk2 : ((grpM s).any fun p => decide (p.1 = (Sum.inl k : Key))) = true := by
      obtain ⟨q, hq, e⟩ := List.any_eq_true.mp hk
      exact List.any_eq_true.mpr ⟨(Sum.inl q.1, q.2.map ans), List.mem_map.mpr ⟨q, hq, rfl⟩, decide_eq_true (by rw [of_decide_eq_true e])⟩
    unfold putG
    rw [if_pos hk, if_pos hk2]
    unfold grpM
    rw [List.map_map, List.map_map]
    refine List.map_congr_left fun q _ => ?_
    show (if (Sum.inl q.1 : Key) = Sum.inl k then _ else _) = _
    by_cases h : q.1 = k
    · show _ = ((Sum.inl (if q.1 = k then (q.1, rs ++ [row]) else q).1 : Key), (if q.1 = k then (q.1, rs ++ [row]) else q).2.map ans)
      rw [if_pos (by rw [h]), if_pos h, List.map_append]; rfl
    · show _ = ((Sum.inl (if q.1 = k then (q.1, rs ++ [row]) else q).1 : Key), (if q.1 = k then (q.1, rs ++ [row]) else q).2.map ans)
      rw [if_neg (fun z => h (by injection z)), if_neg h]
noncomputable def t_l_by_worth (heap : List (List Int)) (term : D) (names : List (Str × Int)) : Res (List (Int × List (List Int))) := if heap.length ≤ 100000 then (match (DL.forR heap [] fun row s => (t_worth term row names).bind fun k => .ok (grpI s k row)) with
  | .ok s => .ok s
  | _ => .bad) else .bad
theorem r_l_by_worth : CallR F_l_by_worth (qC (eT eR) (qC eD (q1 (eM false D.str eI)))) (fun (a : List (List Int) × D × List (Str × Int)) => t_l_by_worth a.1 a.2.1 a.2.2) (eM false D.int (eL eR)) := by
  rintro ⟨heap, term, names⟩ _ ⟨d0, _, rfl, ⟨ds, rfl, hd⟩, d1, _, rfl, ht, d2, rfl, h2⟩
  have ht : term = d1 := Eq.symm ht
  subst ht
  rw [A2.fn.mp hd]
  show Rf _ (t_l_by_worth heap term names) _
  unfold t_l_by_worth
  by_cases hl : heap.length ≤ 100000
  case neg => rw [if_neg hl]; trivial
  rw [if_pos hl]
  cases e : DL.forR heap [] fun row s => (t_worth term row names).bind fun k => .ok (grpI s k row) with
  | exc c fs => trivial
  | bad => trivial
  | ok s =>
    dsimp only
    have gen : ∀ (l : List (List Int)) (x : Sl) (s0 s1 : List (Int × List (List Int))), (DL.forR l s0 fun row s => (t_worth term row names).bind fun k => .ok (grpI s k row)) = .ok s1 →
        ∃ y : Sl, grpL (.nm 4) (eCall F_worth (aCons (eVarS 1) (aCons (eVarS 4) (aCons (eVarS 2) aNil)))) 4 (l.map ans) [some (.tup (heap.map ans), false), some (term, false), some (d2, false), none, x] (grpM s0) = some ([some (.tup (heap.map ans), false), some (term, false), some (d2, false), none, y], grpM s1) := by
      intro l
      induction l with
      | nil => intro x s0 s1 h; cases h; exact ⟨x, rfl⟩
      | cons row l ih =>
        intro x s0 s1 h
        rw [show DL.forR (row :: l) s0 (fun row s => (t_worth term row names).bind fun k => .ok (grpI s k row)) = ((t_worth term row names).bind fun k => .ok (grpI s0 k row)).bind fun s' => DL.forR l s' fun row s => (t_worth term row names).bind fun k => .ok (grpI s k row) from rfl] at h
        cases ew : t_worth term row names with
        | exc c fs => rw [ew] at h; cases h
        | bad => rw [ew] at h; cases h
        | ok k =>
          rw [ew, Res.bind_ok, Res.bind_ok] at h
          obtain ⟨y, hy⟩ := ih (some (ans row, false)) (grpI s0 k row) s1 h
          refine ⟨y, ?_⟩
          obtain ⟨kd, e1, e2⟩ : ∃ kd, F_worth [term, ans row, d2] = .ok kd ∧ eI k kd := by
            have := r_worth (term, row, names) [term, ans row, d2] ⟨_, _, rfl, rfl, _, _, rfl, rfl, _, rfl, h2⟩
            dsimp only at this
            rw [ew] at this
            exact this
          rw [show kd = .int k from e2] at e1
          rw [List.map_cons]
          unfold grpL
          simp [Pat.bind, e1, DL.keyOf]
          rw [grp_put']
          exact hy
    obtain ⟨y, hy⟩ := gen heap none [] s e
    have hm : eM false D.int (eL eR) s (.dct false ((grpM s).map fun q => (keyD q.1, D.lst q.2))) := by
      refine ⟨_, rfl, ?_⟩
      unfold grpM
      rw [List.map_map]
      clear e hy gen
      induction s with
      | nil => rfl
      | cons q s ih => exact ⟨_, _, rfl, ⟨rfl, _, rfl, A2.fn.mpr rfl⟩, ih⟩
    refine ⟨_, runDef_rt ?_, hm⟩
    unfold b_l_by_worth
    have e0 : grpL (.nm 4) (eCall F_worth (aCons (eVarS 1) (aCons (eVarS 4) (aCons (eVarS 2) aNil)))) 4 (heap.map ans) [some (.tup (heap.map ans), false), some (term, false), some (d2, false), none, none] [] = some ([some (.tup (heap.map ans), false), some (term, false), some (d2, false), none, y], grpM s) := hy
    simp [env0, sGrp, sE, fz, iSeq, seqOf, e0, hl]
theorem c_l_by_worth {ρ : KEnv} {fs : DL.Env → Res (List D)} {x0 : (List (List Int))} {x1 : D} {x2 : (List (Str × Int))} (h : EvR ρ fs (.ok (x0, x1, x2)) (qC (eT eR) (qC eD (q1 (eM false D.str eI))))) : EvR ρ (eCall F_l_by_worth fs) (t_l_by_worth x0 x1 x2) (eM false D.int (eL eR)) := v_callp (t := fun a : (List (List Int)) × D × (List (Str × Int)) => t_l_by_worth a.1 a.2.1 a.2.2) (a := (x0, x1, x2)) r_l_by_worth h
noncomputable def t_l_group_right (some_ : (List (List Int))) (stayed : (List (List Int))) (many : Int) : Res Bool :=
  if ((stayed.length : Nat) : Int) ≠ (min many ((some_.length : Nat) : Int)) then
  Res.ok false
else
  thenX (forX stayed some_ (fun row2 s1 =>
  if ¬ row2 ∈ s1 then
  Res.ok (.rt false)
else
  (((Res.ok row2)).bind fun a => remR s1 a).bind fun left3 =>
  Res.ok (.nx left3)) : Res (Oc ((List (List Int))) Bool)) (fun v => v) fun s1 =>
  if ((((s1.length : Nat) : Int) = (0 : Int)) ∨ (((stayed.length : Nat) : Int) = (0 : Int))) then
  Res.ok true
else
  ((maxRR stayed).bind fun a4 => (minRR s1).bind fun b5 => .ok (decide (lexB b5 a4 = false)))
theorem r_l_group_right : CallR F_l_group_right (qC (eL eR) (qC (eL eR) (q1 eI))) (fun (a : (List (List Int)) × (List (List Int)) × Int) => t_l_group_right a.1 a.2.1 a.2.2) eB := by
  rintro ⟨some_, stayed, many⟩ _ ⟨d0, _, rfl, h0, ⟨d1, _, rfl, h1, ⟨d2, rfl, h2⟩⟩⟩
  refine r_def (n := 3) (m := 5) (k := 2) (ρ := ([some (sh (eL eR) some_), some (sh (eL eR) stayed), some (sh eI many)] : KEnv)) (LeA.cons h0 (LeA.cons h1 (LeA.cons h2 LeA.nil))) rfl ?_
  exact (j_ifsP (al := []) (b_test (v_opp ((o_ne (EqE.int _)) _ _) (v_1p (o_lenL _) (vS (eL eR) stayed 1)) (v_opp (o_min _ _) (vS eI many 2) (v_1p (o_lenL _) (vS (eL eR) some_ 0))))) (j_assoc (j_retT (v_c (E := eB) (a := false) rfl))) (j_skip (j_go (g_setF (al := []) (v_1p (o_lstL _) (vS (eL eR) some_ 0))) (j_xT (d_forXP (E' := eB) (al := []) (ρs := fun (s1 : ((List (List Int)))) => ([some (sh (eL eR) some_), some (sh (eL eR) stayed), some (sh eI many), some (ow (eL eR) s1), none] : KEnv)) (ρb := fun row2 (s1 : ((List (List Int)))) => ([some (sh (eL eR) some_), some (sh (eL eR) stayed), some (sh eI many), some (ow (eL eR) s1), some (sh eR row2)] : KEnv)) (v_seqL (vS (eL eR) stayed 1)) (Sb.same (Sb.same (Sb.same (Sb.same (Sb.drop Sb.nil))))) (fun row2 s1 => (p_nm (i := 4))) (fun row2 s1 => (j_ifsP (al := []) (b_test (v_opp ((o_inLn) _ _) (vS eR row2 4) (v_o (E := (eL eR)) (a := s1) (i := 3) rfl))) (j_assoc (j_retL (v_c (E := eB) (a := false) rfl))) (j_skip (j_do (d_rem (al := []) rfl (vS eR row2 4)) (fun left3 => (j_endL (Sb.same (Sb.same (Sb.same (Sb.same (Sb.drop Sb.nil)))))))))))) (fun s1 => (j_ifsP (al := []) (b_orP (b_test (v_opp ((o_eq (EqE.int _)) _ _) (v_1p (o_lenL _) (v_o (E := (eL eR)) (a := s1) (i := 3) rfl)) (vN 0))) (b_test (v_opp ((o_eq (EqE.int _)) _ _) (v_1p (o_lenL _) (vS (eL eR) stayed 1)) (vN 0)))) (j_assoc (j_retT (v_c (E := eB) (a := true) rfl))) (j_skip (j_retT (v_op o_leR (v_1p (o_maxRL _) (vS (eL eR) stayed 1)) (v_1p (o_minRL _) (v_o (E := (eL eR)) (a := s1) (i := 3) rfl)))))))))))
theorem c_l_group_right {ρ : KEnv} {fs : DL.Env → Res (List D)} {x0 : (List (List Int))} {x1 : (List (List Int))} {x2 : Int} (h : EvR ρ fs (.ok (x0, x1, x2)) (qC (eL eR) (qC (eL eR) (q1 eI)))) : EvR ρ (eCall F_l_group_right fs) (t_l_group_right x0 x1 x2) eB := v_callp (t := fun a : (List (List Int)) × (List (List Int)) × Int => t_l_group_right a.1 a.2.1 a.2.2) (a := (x0, x1, x2)) r_l_group_right h
noncomputable def t_law (script : (List Int)) : Res Bool :=
  (((t_l_cell_at script (0 : Int)).bind fun a1 => .ok (a1 % (4 : Int))).bind fun b3 => .ok ((1 : Int) + b3)).bind fun width4 =>
  (t_l_heap (cutL script none (some (40 : Int))) width4).bind fun table5 =>
  (t_l_names script).bind fun names_here6 =>
  ((t_l_cell_at script (2 : Int)).bind fun a7 => .ok (a7 + script.sum)).bind fun cell9 =>
  (t_l_term cell9 (200 : Int) width4).bind fun term_here10 =>
  (Res.ok ((1 : Int) + (cell9 % (4 : Int)))).bind fun many11 =>
  (if ((cell9 / (4 : Int)) % (4 : Int)) = (1 : Int) then (Res.ok ((1 : Int) + ((cell9 / (16 : Int)) % (40 : Int)))).bind fun many13 =>
  Res.ok many13 else Res.ok many11 : Res (Int)).bind fun z12 =>
  (t_heap_of ((fPr (fCons D.str (fCons (fun d : D => d) (fCons D.int (fOne (fPr (fOne D.str))))))) (("cap" : Str), term_here10, z12, ("all" : Str))) table5 names_here6).bind fun found14 =>
  ((t_l_good found14 width4).bind fun z => .ok (!z)).bind fun z => if z = true then
  Res.ok false
else
  (t_l_by_worth table5 term_here10 names_here6).bind fun groups15 =>
  (t_l_by_worth found14 term_here10 names_here6).bind fun stayed16 =>
  thenX (forX (stayed16.map (·.1)) () (fun key18 s17 =>
  if ((getG groups15 key18).isSome != true) = true then
  Res.ok (.rt false)
else
  Res.ok (.nx ())) : Res (Oc Unit Bool)) (fun v => v) fun s17 =>
  thenX (forX groups15 () (fun z20 s19 =>
  ((t_l_group_right z20.2 ((getG stayed16 z20.1).getD ([] : List (List Int))) z12).bind fun z => .ok (!z)).bind fun z => if z = true then
  Res.ok (.rt false)
else
  Res.ok (.nx ())) : Res (Oc Unit Bool)) (fun v => v) fun s19 =>
  Res.ok true
theorem r_law : CallR F_law (q1 (eL eI)) (fun (a : (List Int)) => t_law a) eB := by
  rintro script _ ⟨d0, rfl, h0⟩
  refine r_def (n := 1) (m := 12) (k := 11) (ρ := ([some (sh (eL eI) script)] : KEnv)) (LeA.cons h0 LeA.nil) rfl ?_
  exact (j_do (d_set (al := []) (v_op o_add (vN 1) (v_opl (fun a => o_modL a (by decide)) (c_l_cell_at (vq_cp (vS (eL eI) script 0) (vq_1 (vN 0)))) (vN 4)))) (fun width4 => (j_do (d_set (al := []) (c_l_heap (vq_cp (v_cutL (vS (eL eI) script 0) vo_n (vo_s (vN 40))) (vq_1 (vS eI width4 1))))) (fun table5 => (j_do (d_set (al := []) (c_l_names (vq_1 (vS (eL eI) script 0)))) (fun names_here6 => (j_do (d_set (al := []) (v_op o_add (c_l_cell_at (vq_cp (vS (eL eI) script 0) (vq_1 (vN 2)))) (v_1p (o_sum _) (vS (eL eI) script 0)))) (fun cell9 => (j_do (d_set (al := []) (c_l_term (vq_cp (vS eI cell9 4) (vq_cp (vN 200) (vq_1 (vS eI width4 1)))))) (fun term_here10 => (j_do (d_set (al := []) (v_opp (o_add _ _) (vN 1) (v_opp (o_modL _ (by decide)) (vS eI cell9 4) (vN 4)))) (fun many11 => (j_do (j_ifP (P := PN fun (z12 : (Int)) => ([some (sh (eL eI) script), some (sh eI width4), some (sh (eT eR) table5), some (sh (eM false D.str eI) names_here6), some (sh eI cell9), some (sh eD term_here10), some (sh eI z12), none, none, none, none, none] : KEnv)) (al := []) (b_test (v_opp ((o_eq (EqE.int _)) _ _) (v_opp (o_modL _ (by decide)) (v_opp (o_divL _ (by decide) (by decide)) (vS eI cell9 4) (vN 4)) (vN 4)) (vN 1))) (j_do (d_set (al := []) (v_opp (o_add _ _) (vN 1) (v_opp (o_modL _ (by decide)) (v_opp (o_divL _ (by decide) (by decide)) (vS eI cell9 4) (vN 16)) (vN 40)))) (fun many13 => (j_end (Sb.same (Sb.same (Sb.same (Sb.same (Sb.same (Sb.same (Sb.same (Sb.drop (Sb.drop (Sb.drop (Sb.drop (Sb.drop Sb.nil))))))))))))))) (j_end (Sb.same (Sb.same (Sb.same (Sb.same (Sb.same (Sb.same (Sb.same (Sb.drop (Sb.drop (Sb.drop (Sb.drop (Sb.drop Sb.nil)))))))))))))) (fun z12 => (j_do (d_set (al := []) (c_heap_of (vq_cp (v_castF (f := (fPr (fCons D.str (fCons (fun d : D => d) (fCons D.int (fOne (fPr (fOne D.str)))))))) (Fun.pr (FunQ.c Fun.str (FunQ.c Fun.raw (FunQ.c Fun.int (FunQ.one (Fun.pr (FunQ.one Fun.str))))))) (v_tupQ (vq_cp (v_c (E := eS) (a := ("cap" : Str)) rfl) (vq_cp (vS eD term_here10 5) (vq_cp (vS eI z12 6) (vq_1 (v_tupQ (vq_1 (v_c (E := eS) (a := ("all" : Str)) rfl))))))))) (vq_cp (vS (eT eR) table5 2) (vq_1 (v_1p (o_dict _) (vS (eM false D.str eI) names_here6 3))))))) (fun found14 => (j_ifs (al := []) (b_not (b_truB (c_l_good (vq_cp (vS (eT eR) found14 7) (vq_1 (vS eI width4 1)))))) (j_assoc (j_retT (v_c (E := eB) (a := false) rfl))) (j_skip (j_do (d_set (al := []) (c_l_by_worth (vq_cp (vS (eT eR) table5 2) (vq_cp (vS eD term_here10 5) (vq_1 (vS (eM false D.str eI) names_here6 3)))))) (fun groups15 => (j_do (d_set (al := []) (c_l_by_worth (vq_cp (vS (eT eR) found14 7) (vq_cp (vS eD term_here10 5) (vq_1 (vS (eM false D.str eI) names_here6 3)))))) (fun stayed16 => (j_xT (d_forXP (E' := eB) (al := []) (ρs := fun (s17 : Unit) => ([some (sh (eL eI) script), some (sh eI width4), some (sh (eT eR) table5), some (sh (eM false D.str eI) names_here6), some (sh eI cell9), some (sh eD term_here10), some (sh eI z12), some (sh (eT eR) found14), some (sh (eM false D.int (eL eR)) groups15), some (sh (eM false D.int (eL eR)) stayed16), none, none] : KEnv)) (ρb := fun key18 (s17 : Unit) => ([some (sh (eL eI) script), some (sh eI width4), some (sh (eT eR) table5), some (sh (eM false D.str eI) names_here6), some (sh eI cell9), some (sh eD term_here10), some (sh eI z12), some (sh (eT eR) found14), some (sh (eM false D.int (eL eR)) groups15), some (sh (eM false D.int (eL eR)) stayed16), some (sh eI key18), none] : KEnv)) (v_seqL (v_1p (o_lstMK _) (vS (eM false D.int (eL eR)) stayed16 9))) (Sb.same (Sb.same (Sb.same (Sb.same (Sb.same (Sb.same (Sb.same (Sb.same (Sb.same (Sb.same (Sb.drop (Sb.drop Sb.nil)))))))))))) (fun key18 s17 => (p_nm (i := 10))) (fun key18 s17 => (j_ifsP (al := []) (b_test (v_P (v_opp ((o_inA KeyF.int true) _ _) (v_keyI (vS eI key18 10)) (vS (eM false D.int (eL eR)) groups15 8)))) (j_assoc (j_retL (v_c (E := eB) (a := false) rfl))) (j_skip (j_endL (Sb.same (Sb.same (Sb.same (Sb.same (Sb.same (Sb.same (Sb.same (Sb.same (Sb.same (Sb.same (Sb.drop (Sb.drop Sb.nil))))))))))))))))) (fun s17 => (j_xT (d_forXP (E' := eB) (al := []) (ρs := fun (s19 : Unit) => ([some (sh (eL eI) script), some (sh eI width4), some (sh (eT eR) table5), some (sh (eM false D.str eI) names_here6), some (sh eI cell9), some (sh eD term_here10), some (sh eI z12), some (sh (eT eR) found14), some (sh (eM false D.int (eL eR)) groups15), some (sh (eM false D.int (eL eR)) stayed16), none, none] : KEnv)) (ρb := fun z20 (s19 : Unit) => ([some (sh (eL eI) script), some (sh eI width4), some (sh (eT eR) table5), some (sh (eM false D.str eI) names_here6), some (sh eI cell9), some (sh eD term_here10), some (sh eI z12), some (sh (eT eR) found14), some (sh (eM false D.int (eL eR)) groups15), some (sh (eM false D.int (eL eR)) stayed16), some (sh eI z20.1), some (sh (eL eR) z20.2)] : KEnv)) (v_itemsM (Ek := eI) (fun _ => rfl) (vS (eM false D.int (eL eR)) groups15 8)) (Sb.same (Sb.same (Sb.same (Sb.same (Sb.same (Sb.same (Sb.same (Sb.same (Sb.same (Sb.same (Sb.drop (Sb.drop Sb.nil)))))))))))) (fun z20 s19 => (p_tp (ps_c' (p_nm (i := 10)) (ps_1 (p_nm (i := 11)))))) (fun z20 s19 => (j_ifs (al := []) (b_not (b_truB (c_l_group_right (vq_cp (vS (eL eR) z20.2 11) (vq_cp (v_get2p KeyF.int (vS (eM false D.int (eL eR)) stayed16 9) (v_keyI (vS eI z20.1 10)) (v_lst (vl_nil (E := eR)))) (vq_1 (vS eI z12 6))))))) (j_assoc (j_retL (v_c (E := eB) (a := false) rfl))) (j_skip (j_endL (Sb.same (Sb.same (Sb.same (Sb.same (Sb.same (Sb.same (Sb.same (Sb.same (Sb.same (Sb.same (Sb.drop (Sb.drop Sb.nil))))))))))))))))) (fun s19 => (j_retT (v_c (E := eB) (a := true) rfl))))))))))))))))))))))))))))
/-! ### the drawn numbers -/
theorem sq_le {k n : Int} (h : 0 ≤ k) (h1 : k ≤ n) : 0 ≤ k * k ∧ k * k ≤ n * n := ⟨Int.mul_nonneg h h, Int.mul_le_mul h1 h1 h (by omega)⟩
theorem mix_ok {cell k : Int} (hc : Sm 1048700 cell) (h0 : 0 ≤ k) (h1 : k ≤ 1000000) : Ok (t_l_mix cell k) fun u => 0 ≤ u ∧ u < 2147483629 := by
  unfold t_l_mix
  have q := sq_le (show 0 ≤ k + 1 by omega) (show k + 1 ≤ 1000001 by omega)
  rw [mulR_l hc (by decide) (by decide) (by decide), mulR_s (by omega) (by omega) (by omega) (by omega)]
  simp only [Res.bind_ok]
  rw [mulR_s (by omega) (by omega) (by omega) (by omega)]
  simp only [Res.bind_ok]
  have r0 := Int.emod_nonneg (cell * 48271 + (k + 1) * (k + 1) * 69621) (b := 2147483647) (by decide)
  have r1 := Int.emod_lt_of_pos (cell * 48271 + (k + 1) * (k + 1) * 69621) (b := 2147483647) (by decide)
  generalize (cell * 48271 + (k + 1) * (k + 1) * 69621) % 2147483647 = u at *
  rw [mulR_s (by omega) (by omega) (by omega) (by omega)]
  exact ⟨_, rfl, Int.emod_nonneg _ (by decide), Int.emod_lt_of_pos _ (by decide)⟩
/-- a number within the bounds -/
def InB (v : Int) : Prop := -1000000000000000000 ≤ v ∧ v ≤ 1000000000000000000
theorem number_ok {cell k many : Int} (hc : Sm 1048700 cell) (h0 : 0 ≤ k) (h1 : k ≤ 1000000) (m0 : 0 < many) (m1 : many ≤ 1000) : Ok (t_l_number cell k many) InB := by
  unfold t_l_number
  refine (mix_ok hc h0 h1).bind fun n hn => Ok.ite (fun _ => ?_) fun _ => ?_
  · rw [mulR_s (by decide) (by decide) (by decide) (by decide)]
    simp only [Res.bind_ok]
    rw [modR_pos (by decide)]
    refine ⟨_, rfl, ?_⟩
    unfold InB
    omega
  · rw [modR_pos m0]
    refine ⟨_, rfl, ?_⟩
    have a := Int.emod_nonneg (n / 5) (show many ≠ 0 by omega)
    have b := Int.emod_lt_of_pos (n / 5) m0
    unfold InB
    omega
theorem cell_at_eq (s : List Int) (k : Int) (h : 0 ≤ k) : t_l_cell_at s k = .ok (s.getD k.toNat 0) := by
  unfold t_l_cell_at
  obtain ⟨k, rfl⟩ := Int.eq_ofNat_of_zero_le h
  split
  · rename_i hk
    have hk : k < s.length := by omega
    rw [getL_nat (a := s[k]) (List.getElem?_eq_getElem hk)]
    simp [hk]
  · rename_i hk
    have hk : s.length ≤ k := by omega
    simp [hk]
theorem cell_sm {s : List Int} {n : Nat} (h : ∀ z ∈ s, Sm n z) (k : Nat) : Sm n (s.getD k 0) := by
  by_cases hk : k < s.length
  · rw [List.getD_eq_getElem?_getD, List.getElem?_eq_getElem hk]; exact h _ (List.getElem_mem _)
  · rw [List.getD_eq_getElem?_getD, List.getElem?_eq_none (by omega)]
    show (0 : Int).natAbs < _
    exact Nat.two_pow_pos _
/-! ### what a term is worth -/
def hold (n : Int) : Int := max (-1000000000000000000) (min 1000000000000000000 n)
theorem hold_in (n : Int) : InB (hold n) := by unfold InB hold; omega
theorem InB.sm {v : Int} (h : InB v) : Sm 64 v := sm64 h.1 h.2
def reck2 (op : Str) (x y : Int) : Int :=
  if op = "add" then hold (x + y) else if op = "sub" then hold (x - y) else if op = "mul" then hold (x * y)
  else if op = "quo" then (if y = 0 then 0 else hold (x.fdiv y)) else if op = "less" then (if x < y then 1 else 0)
  else if op = "same" then (if x = y then 1 else 0) else if op = "both" then (if x ≠ 0 ∧ y ≠ 0 then 1 else 0) else (if x ≠ 0 ∨ y ≠ 0 then 1 else 0)
theorem reck2_in (op : Str) (x y : Int) : InB (reck2 op x y) := by
  unfold reck2
  have z0 : InB 0 := by unfold InB; omega
  have z1 : InB 1 := by unfold InB; omega
  repeat' split
  all_goals first | exact hold_in _ | exact z0 | exact z1
abbrev Op2 (op : Str) : Prop := op = "add" ∨ op = "sub" ∨ op = "mul" ∨ op = "quo" ∨ op = "less" ∨ op = "same" ∨ op = "both" ∨ op = "any"
@[simp] theorem rawB_bl (b : Bool) : rawB (.ok (.bl b)) = .ok b := Eq.trans rfl rfl
@[simp] theorem asI_int (i : Int) : D.asI (.int i) = .ok i := Eq.trans rfl rfl
@[simp] theorem asS_str (i : Str) : D.asS (.str i) = .ok i := Eq.trans rfl rfl
@[simp] theorem getL_1 {α : Type} (a b : α) (r : List α) : getL (a :: b :: r) 1 = .ok b := getL_nat (i := 1) rfl
@[simp] theorem getL_2 {α : Type} (a b c : α) (r : List α) : getL (a :: b :: c :: r) 2 = .ok c := getL_nat (i := 2) rfl
theorem divR_b {x y : Int} (h : InB y) (h0 : y ≠ 0) : divR x y = .ok (x.fdiv y) := if_pos ⟨h0, h.sm.lg (by decide)⟩
theorem reck2_ok {x y : Int} (hx : InB x) (hy : InB y) {op : Str} (hop : Op2 op) (r : List Int) : t_reckoned (.str op) (x :: y :: r) = .ok (reck2 op x y) := by
  have m := mulR_ok hx.sm hy.sm (by decide)
  have d := divR_b (x := x) hy
  rcases hop with rfl | rfl | rfl | rfl | rfl | rfl | rfl | rfl <;> unfold t_reckoned t_worked t_marked reck2 t_held hold <;> simp [m]
  by_cases h : y = 0
  · simp [h]; omega
  · simp [h, d h]
theorem not_ok (x : Int) (r : List Int) : t_reckoned (.str "not") (x :: r) = .ok (if x = 0 then 1 else 0) := by
  unfold t_reckoned
  simp
theorem pick_ok (x y z : Int) (r : List Int) : t_reckoned (.str "pick") (x :: y :: z :: r) = .ok (if x ≠ 0 then y else z) := by
  unfold t_reckoned
  by_cases h : x = 0 <;> simp [h]
theorem worth_num (j : Nat) (n : Int) (row : List Int) (m : List (Str × Int)) : u_worth (j + 1) (.tup [.str "num", .int n]) row m = .ok n := by
  unfold u_worth tb_worth
  simp
def fieldV (row : List Int) (k : Nat) : Int := row.getD k 0
theorem worth_field (j : Nat) (k : Nat) (row : List Int) (m : List (Str × Int)) : u_worth (j + 1) (.tup [.str "field", .int (k : Int)]) row m = .ok (fieldV row k) := by
  unfold u_worth tb_worth t_field_at fieldV
  by_cases h : k < row.length
  · simp [h, getL_nat (List.getElem?_eq_getElem h)]
  · simp [h]
theorem worth_name (j : Nat) (x : Str) (row : List Int) (m : List (Str × Int)) : u_worth (j + 1) (.tup [.str "name", .str x]) row m = .ok ((getG m x).getD 0) := by
  unfold u_worth tb_worth
  simp
theorem cut_tail (d : D) (r : List D) : dCut (some 1) none (.tup (d :: r)) = .ok (.tup r) := by
  simp [dCut, cutL, HT.sIx]
theorem worth_op {j : Nat} {op : Str} {ts : List D} {ws : List Int} {row : List Int} {m : List (Str × Int)} (h1 : op ≠ "num") (h2 : op ≠ "field") (h3 : op ≠ "name") (hl : ts.length ≤ 1000) (h : A2 (fun t w => u_worth j t row m = .ok w) ts ws) : u_worth (j + 1) (.tup (.str op :: ts)) row m = t_reckoned (.str op) ws := by
  have c : DL.compR ts (fun t => u_worth j t row m) = .ok ws := by
    obtain ⟨bs, e, hb⟩ := Ok.compR (P := fun t w => u_worth j t row m = .ok w) (Q := fun bs => bs = ws) (l := ts) (f := fun t => u_worth j t row m) (by omega) (fun t ht => by
      obtain ⟨w, _, hw⟩ := a2_mem' h t ht
      exact ⟨w, hw, hw⟩) (fun bs hb => a2_det (fun t a b x y => by rw [x] at y; cases y; rfl) hb h)
    rw [e, hb]
  unfold u_worth tb_worth
  simp [h1, h2, h3, cut_tail, D.asItems, c]
/-! ### drawn terms: worth some number within the bounds at each row -/
/-- rows of so many numbers within the bounds -/
def RowOk (W : Nat) (r : List Int) : Prop := r.length = W ∧ ∀ x ∈ r, InB x
def IsTm (W : Nat) (m : List (Str × Int)) (j : Nat) (t : D) : Prop := ∃ w : List Int → Int, ∀ r, RowOk W r → u_worth j t r m = .ok (w r) ∧ InB (w r)
abbrev NmOk (m : List (Str × Int)) : Prop := ∀ p ∈ m, InB p.2
theorem inb0 : InB 0 := by unfold InB; omega
theorem getG_in {m : List (Str × Int)} (h : NmOk m) (x : Str) : InB ((getG m x).getD 0) := by
  unfold getG
  cases q : m.find? fun p => decide (p.1 = x) with
  | none => exact inb0
  | some p => exact h p (List.mem_of_find?_eq_some q)
theorem isTm_num {W : Nat} {m : List (Str × Int)} {j : Nat} {n : Int} (h : InB n) : IsTm W m (j + 1) (.tup [.str "num", .int n]) := ⟨fun _ => n, fun r _ => ⟨worth_num j n r m, h⟩⟩
theorem isTm_name {W : Nat} {m : List (Str × Int)} (hm : NmOk m) {j : Nat} {x : Str} : IsTm W m (j + 1) (.tup [.str "name", .str x]) := ⟨fun _ => (getG m x).getD 0, fun r _ => ⟨worth_name j x r m, getG_in hm x⟩⟩
theorem isTm_field {W : Nat} {m : List (Str × Int)} {j : Nat} {k : Nat} : IsTm W m (j + 1) (.tup [.str "field", .int (k : Int)]) := ⟨fun r => fieldV r k, fun r hr => ⟨worth_field j k r m, by
  show InB (r.getD k 0)
  by_cases h : k < r.length
  · rw [List.getD_eq_getElem?_getD, List.getElem?_eq_getElem h]; exact hr.2 _ (List.getElem_mem _)
  · rw [List.getD_eq_getElem?_getD, List.getElem?_eq_none (by omega)]; exact inb0⟩⟩
theorem isTm_not {W : Nat} {m : List (Str × Int)} {j : Nat} {t : D} (h : IsTm W m j t) : IsTm W m (j + 1) (.tup [.str "not", t]) := by
  obtain ⟨w, h⟩ := h
  refine ⟨fun r => if w r = 0 then 1 else 0, fun r hr => ⟨?_, by dsimp only; split <;> (unfold InB; omega)⟩⟩
  rw [worth_op (ts := [t]) (ws := [w r]) (by decide) (by decide) (by decide) (by simp) ⟨_, _, rfl, (h r hr).1, rfl⟩, not_ok]
theorem isTm_pick {W : Nat} {m : List (Str × Int)} {j : Nat} {t u v : D} (h : IsTm W m j t) (k : IsTm W m j u) (l : IsTm W m j v) : IsTm W m (j + 1) (.tup [.str "pick", t, u, v]) := by
  obtain ⟨w, h⟩ := h
  obtain ⟨x, k⟩ := k
  obtain ⟨y, l⟩ := l
  refine ⟨fun r => if w r ≠ 0 then x r else y r, fun r hr => ⟨?_, by
    dsimp only
    split
    · exact (k r hr).2
    · exact (l r hr).2⟩⟩
  rw [worth_op (ts := [t, u, v]) (ws := [w r, x r, y r]) (by decide) (by decide) (by decide) (by simp) ⟨_, _, rfl, (h r hr).1, _, _, rfl, (k r hr).1, _, _, rfl, (l r hr).1, rfl⟩, pick_ok]
theorem isTm_two {W : Nat} {m : List (Str × Int)} {j : Nat} {t u : D} {op : Str} (hop : Op2 op) (h : IsTm W m j t) (k : IsTm W m j u) : IsTm W m (j + 1) (.tup [.str op, t, u]) := by
  obtain ⟨w, h⟩ := h
  obtain ⟨x, k⟩ := k
  refine ⟨fun r => reck2 op (w r) (x r), fun r hr => ⟨?_, reck2_in _ _ _⟩⟩
  have ne : op ≠ "num" ∧ op ≠ "field" ∧ op ≠ "name" := by rcases hop with rfl | rfl | rfl | rfl | rfl | rfl | rfl | rfl <;> decide
  rw [worth_op (ts := [t, u]) (ws := [w r, x r]) ne.1 ne.2.1 ne.2.2 (by simp) ⟨_, _, rfl, (h r hr).1, _, _, rfl, (k r hr).1, rfl⟩, reck2_ok (h r hr).2 (k r hr).2 hop]
theorem leaf_ok {cell k : Int} {W : Nat} {m : List (Str × Int)} (hm : NmOk m) (hc : Sm 1048700 cell) (h0 : 0 ≤ k) (h1 : k ≤ 100000) (hW : 0 < W) (j : Nat) : Ok (t_l_leaf cell k W) (IsTm W m (j + 1)) := by
  unfold t_l_leaf
  refine (mix_ok hc h0 (by omega)).bind fun n hn => Ok.ite (fun _ => ?_) fun _ => Ok.ite (fun _ => ?_) fun _ => ?_
  · obtain ⟨b, e, hb⟩ := number_ok (many := 7) hc (show 0 ≤ k + 100 by omega) (by omega) (by decide) (by decide)
    rw [e]
    exact ⟨_, rfl, isTm_num hb⟩
  · obtain ⟨x, _, e⟩ := getL_mem (l := (["a", "b", "c"] : List Str)) (i := n / 8 % 3) (by simp; omega) (by simp; omega)
    rw [e]
    exact ⟨_, rfl, isTm_name hm⟩
  · rw [modR_pos (by omega)]
    have a := Int.emod_nonneg (n / 8) (show (W : Int) ≠ 0 by omega)
    obtain ⟨k, hk⟩ := Int.eq_ofNat_of_zero_le a
    rw [hk]
    exact ⟨_, rfl, isTm_field⟩
theorem term_ok {cell k : Int} {W : Nat} {m : List (Str × Int)} (hm : NmOk m) (hc : Sm 1048700 cell) (h0 : 0 ≤ k) (h1 : k ≤ 10000) (hW : 0 < W) (j : Nat) : Ok (t_l_term cell k W) (IsTm W m (j + 2)) := by
  have up : ∀ t, IsTm W m (j + 1) t → IsTm W m (j + 1) t := fun _ h => h
  obtain ⟨n, en, hn⟩ := mix_ok hc h0 (by omega)
  -- the leaves, at either depth
  have lf : ∀ k', 0 ≤ k' → k' ≤ 100000 → ∃ t, t_l_leaf cell k' W = .ok t ∧ IsTm W m (j + 1) t ∧ IsTm W m (j + 2) t := fun k' a b => by
    obtain ⟨t, e, h⟩ := (leaf_ok hm hc a b hW j).and (leaf_ok hm hc a b hW (j + 1))
    exact ⟨t, e, h⟩
  obtain ⟨t, et, ht1, ht2⟩ := lf (k + 20) (by omega) (by omega)
  obtain ⟨u, eu, hu1, hu2⟩ := lf (k + 40) (by omega) (by omega)
  obtain ⟨v, ev, hv1, hv2⟩ := lf (k + 60) (by omega) (by omega)
  unfold t_l_term
  rw [en, et, eu, ev]
  simp only [Res.bind_ok]
  refine Ok.ite (fun _ => ⟨_, rfl, ht2⟩) fun _ => Ok.ite (fun _ => ⟨_, rfl, isTm_not ht1⟩) fun _ => Ok.ite (fun _ => ⟨_, rfl, isTm_pick ht1 hu1 hv1⟩) fun _ => ?_
  obtain ⟨op, mem, e⟩ := getL_mem (l := (["add", "sub", "mul", "quo", "less", "same", "both", "any"] : List Str)) (i := n / 8 % 8) (by simp; omega) (by simp; omega)
  rw [e]
  exact ⟨_, rfl, isTm_two (by simpa using mem) ht1 hu1⟩
theorem heap_ok {cells : List Int} {W : Nat} (hc : ∀ z ∈ cells, Sm 1048700 z) (hl : cells.length ≤ 1000) (h0 : 0 < W) (h4 : W ≤ 4) : Ok (t_l_heap cells W) fun T => T.length = cells.length ∧ sortK T = T ∧ ∀ r ∈ T, RowOk W r := by
  unfold t_l_heap
  obtain ⟨many, hm, e⟩ := getL_mem (l := ([7, 3, 3, 2] : List Int)) (i := (W : Int) - 1) (by simp; omega) (by simp; omega)
  have m0 : 0 < many ∧ many ≤ 7 := by simp at hm; omega
  rw [e, Res.bind_ok]
  refine Ok.bind (P := fun L => L.length = cells.length ∧ ∀ r ∈ L, RowOk W r) ?_ fun L hL => ?_
  · refine (Ok.forA (P := fun _ r => RowOk W r) (s := []) (by simp; omega) fun z hz s hs => ?_).imp ?_
    · rw [rng1_ok (by omega) (by omega)]
      simp only [Res.bind_ok, Res.assoc]
      refine Ok.bind (P := RowOk W) ?_ fun r hr => ?_
      · refine Ok.compR (P := fun _ x => InB x) (by rw [rangeI_len]; omega) (fun j hj => ?_) fun r hr => ?_
        · have := rangeI_mem.mp hj
          rw [mulR_s (by omega) (by omega) (by omega) (by omega)]
          exact number_ok (hc z hz) (by omega) (by omega) m0.1 (by omega)
        · refine ⟨by rw [hr.length, rangeI_len]; omega, fun x hx => ?_⟩
          obtain ⟨_, _, h⟩ := a2_mem hr x hx
          exact h
      · exact ⟨s ++ [r], by rw [appR_ok hs]; rfl, r, hr, rfl⟩
    · rintro _ ⟨bs, hb, rfl⟩
      refine ⟨by simp [hb.length], fun r hr => ?_⟩
      obtain ⟨_, _, h⟩ := a2_mem hb r (by simpa using hr)
      exact h
  · rw [sortKR_ok (by omega)]
    exact ⟨_, rfl, by rw [sortK_len]; exact hL.1, sortK_two _, fun r hr => hL.2 r (sortK_mem.mp hr)⟩
theorem names_ok {s : List Int} (h : ∀ z ∈ s, Sm 1048576 z) (hl : s.length ≤ 64) : Ok (t_l_names s) fun m => NmOk m ∧ ∃ a b, m = [(("a" : Str), a), (("b" : Str), b)] := by
  unfold t_l_names
  have hs : Sm 1048700 s.sum := (Sm.sum h hl).mono (by decide)
  obtain ⟨a, ea, ha⟩ := number_ok (k := 301) (many := 5) hs (by decide) (by decide) (by decide) (by decide)
  obtain ⟨b, eb, hb⟩ := number_ok (k := 302) (many := 5) hs (by decide) (by decide) (by decide) (by decide)
  rw [ea, eb]
  refine ⟨_, rfl, fun p hp => ?_, a, b, rfl⟩
  have : p = (("a" : Str), a) ∨ p = (("b" : Str), b) := by simpa using hp
  rcases this with rfl | rfl
  · exact ha
  · exact hb
theorem good_ok {f : List (List Int)} {W : Nat} (h : ∀ r ∈ f, r.length = W) (hs : sortK f = f) (hl : f.length ≤ 10000000) : t_l_good f W = .ok true := by
  unfold t_l_good
  rw [if_neg (by simp), forX_unit, thenX_nx, sortKR_ok hl, hs]
  · simp
  · intro r hr
    rw [if_neg (by simp [h r hr]), forX_unit]
    · rfl
    · intro n hn
      simp
/-- what a term is worth at a row, where it is worth anything -/
noncomputable def wv (m : List (Str × Int)) (t : D) (r : List Int) : Int := match t_worth t r m with
  | .ok n => n
  | _ => 0
def TmOk (W : Nat) (m : List (Str × Int)) (t : D) : Prop := ∀ r, RowOk W r → t_worth t r m = .ok (wv m t r) ∧ InB (wv m t r)
theorem IsTm.ok {W : Nat} {m : List (Str × Int)} {t : D} (h : IsTm W m 12 t) : TmOk W m t := fun r hr => by
  obtain ⟨w, h⟩ := h
  have e : t_worth t r m = .ok (w r) := (h r hr).1
  have e2 : wv m t r = w r := by unfold wv; rw [e]
  rw [e2]
  exact ⟨e, (h r hr).2⟩
/-- rows all of which are well -/
abbrev HpOk (W : Nat) (h : List (List Int)) : Prop := ∀ r ∈ h, RowOk W r
/-! ### heaps that views make -/
@[simp] theorem dIx_last (xs : List D) (a : D) : dIx (.tup (xs ++ [a])) (.int (-1)) = .ok a := by simp [dIx, atI_last]
@[simp] theorem dIx_last4 (a b c d : D) : dIx (.tup [a, b, c, d]) (.int (-1)) = .ok d := dIx_last [a, b, c] d
theorem heap_all (j : Nat) (T : List (List Int)) (m : List (Str × Int)) : u_heap_of (j + 1) (.tup [.str "all"]) T m = .ok T := by
  unfold u_heap_of tb_heap_of; simp
theorem heap_cap (j : Nat) (t n v : D) (T : List (List Int)) (m : List (Str × Int)) : u_heap_of (j + 1) (.tup [.str "cap", t, n, v]) T m = (u_heap_of j v T m).bind fun h => (t_capped_rows t n h m).bind sortKR := by
  rw [u_heap_of]; unfold tb_heap_of; simp [Res.assoc]
@[simp] theorem asItems_tup (l : List D) : D.asItems (.tup l) = .ok l := Eq.trans rfl rfl
/-! ### views: each row once; so many at most -/
theorem snoc_ind {α : Type} {P : List α → Prop} (h0 : P []) (h : ∀ l a, P l → P (l ++ [a])) : ∀ l, P l := fun l => by
  have : ∀ n (l : List α), l.length = n → P l := by
    intro n
    induction n with
    | zero => intro l hl; rw [List.eq_nil_of_length_eq_zero hl]; exact h0
    | succ n ih =>
      intro l hl
      rcases List.eq_nil_or_concat l with rfl | ⟨l', a, rfl⟩
      · exact h0
      · rw [List.concat_eq_append] at hl ⊢
        exact h l' a (ih l' (by simpa using hl))
  exact this _ l rfl
/-- of rows of one worth so many at most, the first ones -/
def capF (n : Int) (w : List Int → Int) (p : List (List Int) × List (List Int)) (r : List Int) : List (List Int) × List (List Int) := (p.1 ++ [r], if ((p.1.countP fun x => decide (w x = w r) : Nat) : Int) < n then p.2 ++ [r] else p.2)
def capL (n : Int) (w : List Int → Int) (h : List (List Int)) : List (List Int) := (h.foldl (capF n w) ([], [])).2
theorem cap_done (n : Int) (w : List Int → Int) (h : List (List Int)) : (h.foldl (capF n w) ([], [])).1 = h := by
  have gen : ∀ (h : List (List Int)) (p : List (List Int) × List (List Int)), (h.foldl (capF n w) p).1 = p.1 ++ h := by
    intro h
    induction h with
    | nil => intro p; simp
    | cons a h ih => intro p; rw [List.foldl_cons, ih]; simp [capF]
  rw [gen]; rfl
theorem cap_snoc (n : Int) (w : List Int → Int) (h : List (List Int)) (r : List Int) : capL n w (h ++ [r]) = if ((h.countP fun x => decide (w x = w r) : Nat) : Int) < n then capL n w h ++ [r] else capL n w h := by
  have d := cap_done n w h
  unfold capL
  rw [List.foldl_append, List.foldl_cons, List.foldl_nil]
  rw [show capF n w (h.foldl (capF n w) ([], [])) r = ((h.foldl (capF n w) ([], [])).1 ++ [r], if (((h.foldl (capF n w) ([], [])).1.countP fun x => decide (w x = w r) : Nat) : Int) < n then (h.foldl (capF n w) ([], [])).2 ++ [r] else (h.foldl (capF n w) ([], [])).2) from rfl, d]
theorem cap_sub (n : Int) (w : List Int → Int) (h : List (List Int)) : (capL n w h).Sublist h := by
  refine snoc_ind (P := fun h => (capL n w h).Sublist h) (List.Sublist.refl _) (fun h r ih => ?_) h
  rw [cap_snoc]
  split
  · exact ih.append (List.Sublist.refl _)
  · exact ih.trans (List.sublist_append_left _ _)
theorem capped_eq {W : Nat} {m : List (Str × Int)} {t : D} {n : Int} (ht : TmOk W m t) {h : List (List Int)} (hh : HpOk W h) (hl : h.length ≤ 1000000) : t_capped_rows t (.int n) h m = .ok (capL n (wv m t) h) := by
  unfold t_capped_rows
  simp only [Res.bind_ok]
  have key : Ok (DL.forR h (([] : List (Int × Int)), ([] : List (List Int))) (fun (row3 : List Int) (s2 : List (Int × Int) × List (List Int)) =>
      (t_worth t row3 m).bind fun key4 =>
      (putDR s2.1 key4 (((getG s2.1 key4).getD (0 : Int)) + (1 : Int))).bind fun met5 =>
      (((atG met5 key4).bind fun a6 => (D.asI (.int n)).bind fun b7 => .ok (decide (a6 ≤ b7))).bind fun z => if z = true then (appR s2.2 row3).bind fun made9 =>
      Res.ok made9 else Res.ok s2.2 : Res ((List (List Int)))).bind fun z8 =>
      Res.ok (met5, z8))) (fun (s : List (Int × Int) × List (List Int)) => s.2 = capL n (wv m t) h ∧ (∀ k, (getG s.1 k).getD 0 = ((h.countP fun x => decide (wv m t x = k) : Nat) : Int)) ∧ s.1.length ≤ h.length) := by
    refine Ok.forR (fun (d : List (List Int)) (s : List (Int × Int) × List (List Int)) => s.2 = capL n (wv m t) d ∧ (∀ k, (getG s.1 k).getD 0 = ((d.countP fun x => decide (wv m t x = k) : Nat) : Int)) ∧ s.1.length ≤ d.length) ⟨rfl, fun k => rfl, Nat.le_refl _⟩ ?_
    rintro d r rest ⟨met, made⟩ e ⟨h1, h2, h3⟩
    have hd : d.length < 1000000 := by have := congrArg List.length e; simp at this; omega
    have hr := hh r (by rw [e]; simp)
    have h3 : met.length ≤ d.length := h3
    rw [(ht r hr).1, Res.bind_ok]
    rw [show putDR met (wv m t r) ((getG met (wv m t r)).getD 0 + 1) = .ok (putG met (wv m t r) ((getG met (wv m t r)).getD 0 + 1)) from if_pos (by rw [PySem.sizeLine_eq]; omega), Res.bind_ok]
    have ga : atG (putG met (wv m t r) ((getG met (wv m t r)).getD 0 + 1)) (wv m t r) = .ok ((getG met (wv m t r)).getD 0 + 1) := by
      unfold atG; rw [put_get_selfG]
    have g2 : (getG met (wv m t r)).getD 0 = ((d.countP fun x => decide (wv m t x = wv m t r) : Nat) : Int) := h2 _
    rw [ga, g2]
    simp only [Res.bind_ok, asI_int]
    have h1 : made = capL n (wv m t) d := h1
    have ml : made.length ≤ 1000000 := by rw [h1]; have := (cap_sub n (wv m t) d).length_le; omega
    have ck : ∀ k, (getG (putG met (wv m t r) ((((d.countP fun x => decide (wv m t x = wv m t r) : Nat) : Int)) + 1)) k).getD 0 = (((d ++ [r]).countP fun x => decide (wv m t x = k) : Nat) : Int) := fun k => by
      rw [List.countP_append, List.countP_singleton]
      by_cases hk : k = wv m t r
      · subst hk
        rw [put_get_selfG]
        simp
      · rw [put_get_neG _ hk, h2 k]
        simp [Ne.symm hk]
    have pl : (putG met (wv m t r) ((((d.countP fun x => decide (wv m t x = wv m t r) : Nat) : Int)) + 1)).length ≤ (d ++ [r]).length := by
      have := putG_len met (wv m t r) ((((d.countP fun x => decide (wv m t x = wv m t r) : Nat) : Int)) + 1)
      rw [List.length_append, List.length_singleton]; omega
    by_cases hc : ((d.countP fun x => decide (wv m t x = wv m t r) : Nat) : Int) + 1 ≤ n
    · rw [decide_eq_true hc, if_pos rfl, appR_ok (by omega)]
      exact ⟨_, rfl, by rw [cap_snoc, if_pos (by omega), ← h1], ck, pl⟩
    · rw [decide_eq_false hc, if_neg (by simp)]
      exact ⟨_, rfl, by rw [cap_snoc, if_neg (by omega), ← h1], ck, pl⟩
  obtain ⟨s, e, h1, _⟩ := key
  rw [e, Res.bind_ok, h1]
/-! ### one heap within another -/
def Inc (L M : List (List Int)) : Prop := ∃ N, M.Perm (L ++ N)
theorem Inc.perm {L M L' M' : List (List Int)} (h : Inc L M) (p : L'.Perm L) (q : M'.Perm M) : Inc L' M' := by
  obtain ⟨N, h⟩ := h
  exact ⟨N, (q.trans h).trans (List.Perm.append_right N p.symm)⟩
theorem Inc.sort {L M : List (List Int)} (h : Inc L M) : Inc (sortK L) (sortK M) := h.perm (sortK_perm L) (sortK_perm M)
theorem Inc.len {L M : List (List Int)} (h : Inc L M) : L.length ≤ M.length := by
  obtain ⟨N, h⟩ := h
  rw [h.length_eq, List.length_append]; omega
theorem forR_cons {α S : Type} (a : α) (l : List α) (s : S) (f : α → S → Res S) : DL.forR (a :: l) s f = (f a s).bind fun s' => DL.forR l s' f := rfl
/-! ### sums by key -/
section
variable {V : Type} {add : V → V → V} {z : V}
def totV (add : V → V → V) (z : V) (ps : List (List Int × V)) (k : List Int) : V := ps.foldl (fun t p => if p.1 = k then add t p.2 else t) z
theorem totV_snoc (ps : List (List Int × V)) (p : List Int × V) (k : List Int) : totV add z (ps ++ [p]) k = if p.1 = k then add (totV add z ps k) p.2 else totV add z ps k := by
  unfold totV
  rw [List.foldl_append]
  rfl
theorem totV_none {ps : List (List Int × V)} {k : List Int} (h : k ∉ ps.map (·.1)) : totV add z ps k = z := by
  unfold totV
  have gen : ∀ (ps : List (List Int × V)) (t : V), k ∉ ps.map (·.1) → ps.foldl (fun t p => if p.1 = k then add t p.2 else t) t = t := by
    intro ps
    induction ps with
    | nil => intro t _; rfl
    | cons p ps ih =>
      intro t h
      rw [List.map_cons, List.mem_cons] at h
      rw [List.foldl_cons, if_neg (fun e => h (.inl e.symm))]
      exact ih t fun e => h (.inr e)
  exact gen ps z h
structure SumV (add : V → V → V) (z : V) (m ps : List (List Int × V)) : Prop where
  nd : (m.map (·.1)).Nodup
  ks : ∀ k, k ∈ m.map (·.1) ↔ k ∈ ps.map (·.1)
  gt : ∀ k, k ∈ ps.map (·.1) → getG m k = some (totV add z ps k)
  ln : m.length ≤ ps.length
theorem SumV.nil : SumV add z [] [] := ⟨List.nodup_nil, fun k => Iff.rfl, fun k h => absurd h List.not_mem_nil, Nat.le_refl _⟩
theorem SumV.at {m ps : List (List Int × V)} (S : SumV add z m ps) (k : List Int) : (getG m k).getD z = totV add z ps k := by
  by_cases h : k ∈ ps.map (·.1)
  · rw [S.gt _ h]; rfl
  · rw [get_noneG (fun e => h ((S.ks _).mp e)), totV_none h]; rfl
theorem SumV.step {m ps : List (List Int × V)} (S : SumV add z m ps) (p : List Int × V) : SumV add z (putG m p.1 (add (totV add z ps p.1) p.2)) (ps ++ [p]) := by
  have hk := put_keysG m p.1 (add (totV add z ps p.1) p.2)
  refine ⟨?_, fun k => ?_, fun k h => ?_, ?_⟩
  · rw [hk]
    split
    · exact S.nd
    · rename_i h
      rw [List.nodup_append]
      refine ⟨S.nd, by simp, ?_⟩
      intro a ha b hb
      rw [List.mem_singleton] at hb
      subst hb
      intro e
      subst e
      exact h ha
  · rw [hk, List.map_append, List.mem_append, ← S.ks k]
    split
    · rename_i h
      constructor
      · exact .inl
      · rintro (q | q)
        · exact q
        · rw [show k = p.1 by simpa using q]; exact h
    · rw [List.mem_append]; rfl
  · rw [totV_snoc]
    by_cases e : p.1 = k
    · subst e
      rw [put_get_selfG, if_pos rfl]
    · rw [put_get_neG _ (Ne.symm e), if_neg e]
      rw [List.map_append, List.mem_append] at h
      rcases h with q | q
      · exact S.gt _ q
      · exact absurd (by simpa using q : k = p.1).symm e
  · have := congrArg List.length hk
    rw [List.length_map] at this
    rw [this, List.length_append]
    have l := S.ln
    split
    · rw [List.length_map]; simp; omega
    · rw [List.length_append, List.length_map]; simp; omega
end
/-! ### k19 -/
theorem sorted_sub {T U : List (List Int)} (h : sortK T = T) (s : U.Sublist T) : sortK U = U := sortK_id (List.Pairwise.sublist s (by rw [← h]; exact sortK_up T))
theorem cap_filter (n : Nat) (w : List Int → Int) (k : Int) : ∀ h : List (List Int), (capL n w h).filter (fun r => decide (w r = k)) = (h.filter fun r => decide (w r = k)).take n := by
  refine snoc_ind ?_ ?_
  · exact List.take_nil.symm
  intro h r ih
  rw [cap_snoc, List.filter_append]
  by_cases e : w r = k
  · have c : h.countP (fun x => decide (w x = w r)) = (h.filter fun r => decide (w r = k)).length := by rw [List.countP_eq_length_filter, e]
    rw [c, show List.filter (fun r => decide (w r = k)) [r] = [r] by rw [List.filter_cons, if_pos (decide_eq_true e)]; rfl]
    by_cases z : (((h.filter fun r => decide (w r = k)).length : Nat) : Int) < n
    · rw [if_pos z, List.filter_append, ih, show List.filter (fun r => decide (w r = k)) [r] = [r] by rw [List.filter_cons, if_pos (decide_eq_true e)]; rfl]
      rw [List.take_of_length_le (by omega), List.take_of_length_le (by rw [List.length_append, List.length_singleton]; omega)]
    · rw [if_neg z, ih, List.take_append_of_le_length (by omega)]
  · have x : List.filter (fun r => decide (w r = k)) [r] = [] := by rw [List.filter_cons, if_neg (by simpa using e)]; rfl
    rw [x, List.append_nil, ← ih]
    split
    · rw [List.filter_append, x, List.append_nil]
    · rfl
/-- groups by worth -/
structure Grp (w : List Int → Int) (s : List (Int × List (List Int))) (h : List (List Int)) : Prop where
  is : ∀ q ∈ s, q.2 = h.filter fun r => decide (w r = q.1)
  all : ∀ r ∈ h, w r ∈ s.map (·.1)
  key : ∀ k ∈ s.map (·.1), k ∈ h.map w
theorem Grp.get {w : List Int → Int} {s : List (Int × List (List Int))} {h : List (List Int)} (G : Grp w s h) (k : Int) : (getG s k).getD [] = h.filter fun r => decide (w r = k) := by
  cases e : getG s k with
  | some l =>
    unfold getG at e
    obtain ⟨q, hq, rfl⟩ := Option.map_eq_some_iff.mp e
    have := G.is q (List.mem_of_find?_eq_some hq)
    have k' : q.1 = k := by simpa using List.find?_some hq
    rw [← k']; exact this
  | none =>
    symm
    rw [Option.getD_none, List.filter_eq_nil_iff]
    intro r hr z
    have z : w r = k := of_decide_eq_true z
    have := get_someG.mpr (G.all r hr)
    rw [z, e] at this
    cases this
theorem Grp.step {w : List Int → Int} {s : List (Int × List (List Int))} {h : List (List Int)} (G : Grp w s h) (r : List Int) : Grp w (grpI s (w r) r) (h ++ [r]) := by
  have fl : ∀ k, (h ++ [r]).filter (fun x => decide (w x = k)) = (h.filter fun x => decide (w x = k)) ++ if w r = k then [r] else [] := fun k => by
    rw [List.filter_append]
    by_cases e : w r = k
    · rw [if_pos e, List.filter_cons, if_pos (decide_eq_true e)]; rfl
    · rw [if_neg e, List.filter_cons, if_neg (by simpa using e)]; rfl
  have g := G.get (w r)
  unfold grpI
  cases e : getG s (w r) with
  | none =>
    rw [e] at g
    have nk : w r ∉ s.map (·.1) := fun z => by have := get_someG.mpr z; rw [e] at this; cases this
    refine ⟨fun q hq => ?_, fun x hx => ?_, fun k hk => ?_⟩
    · rcases List.mem_append.mp hq with hq | hq
      · rw [fl, if_neg (fun z => nk (by rw [z]; exact List.mem_map_of_mem hq)), List.append_nil]; exact G.is q hq
      · rw [List.mem_singleton.mp hq, fl, if_pos rfl, ← g]; rfl
    · show _ ∈ (s ++ [(w r, [r])]).map (·.1)
      rw [List.map_append]
      rcases List.mem_append.mp hx with hx | hx
      · exact List.mem_append_left _ (G.all x hx)
      · rw [List.mem_singleton.mp hx]; exact List.mem_append_right _ List.mem_cons_self
    · have hk : k ∈ (s ++ [(w r, [r])]).map (·.1) := hk
      rw [List.map_append] at hk ⊢
      rcases List.mem_append.mp hk with hk | hk
      · exact List.mem_append_left _ (G.key k hk)
      · exact List.mem_append_right _ hk
  | some rs =>
    rw [e, Option.getD_some] at g
    have mk : w r ∈ s.map (·.1) := get_someG.mp (by rw [e]; rfl)
    have pm : putG s (w r) (rs ++ [r]) = s.map fun p => if p.1 = w r then (p.1, rs ++ [r]) else p := by
      unfold putG
      rw [if_pos]
      obtain ⟨q, hq, e⟩ := List.mem_map.mp mk
      exact List.any_eq_true.mpr ⟨q, hq, decide_eq_true e⟩
    have ks : (putG s (w r) (rs ++ [r])).map (·.1) = s.map (·.1) := by
      rw [pm, List.map_map]
      refine List.map_congr_left fun q _ => ?_
      show (if q.1 = w r then (q.1, rs ++ [r]) else q).1 = q.1
      split <;> rfl
    refine ⟨fun q hq => ?_, fun x hx => ?_, fun k hk => ?_⟩
    · have hq : q ∈ putG s (w r) (rs ++ [r]) := hq
      rw [pm] at hq
      obtain ⟨q', hq', rfl⟩ := List.mem_map.mp hq
      by_cases z : q'.1 = w r
      · rw [if_pos z, fl, if_pos z.symm, z, ← g]
      · rw [if_neg z, fl, if_neg (Ne.symm z), List.append_nil]; exact G.is q' hq'
    · show _ ∈ (putG s (w r) (rs ++ [r])).map (·.1)
      rw [ks]
      rcases List.mem_append.mp hx with hx | hx
      · exact G.all x hx
      · rw [List.mem_singleton.mp hx]; exact mk
    · have hk : k ∈ (putG s (w r) (rs ++ [r])).map (·.1) := hk
      rw [ks] at hk
      rw [List.map_append]
      exact List.mem_append_left _ (G.key k hk)
theorem grp_loop {W : Nat} {m : List (Str × Int)} {t : D} (ht : TmOk W m t) : ∀ (h d : List (List Int)) (s : List (Int × List (List Int))), HpOk W h → Grp (wv m t) s d → ∃ s', DL.forR h s (fun row s => (t_worth t row m).bind fun k => .ok (grpI s k row)) = .ok s' ∧ Grp (wv m t) s' (d ++ h)
  | [], d, s, _, G => ⟨s, rfl, by rw [List.append_nil]; exact G⟩
  | r :: h, d, s, hh, G => by
    obtain ⟨s', e, G'⟩ := grp_loop ht h (d ++ [r]) (grpI s (wv m t r) r) (fun x hx => hh x (List.mem_cons_of_mem _ hx)) (G.step r)
    refine ⟨s', ?_, by rw [List.append_assoc] at G'; exact G'⟩
    rw [forR_cons, (ht r (hh r List.mem_cons_self)).1, Res.bind_ok, Res.bind_ok, e]
theorem grp_ok {W : Nat} {m : List (Str × Int)} {t : D} (ht : TmOk W m t) {h : List (List Int)} (hh : HpOk W h) (hl : h.length ≤ 100000) : Ok (t_l_by_worth h t m) fun s => Grp (wv m t) s h := by
  obtain ⟨s, e, G⟩ := grp_loop ht h [] [] hh ⟨(fun _ z => nomatch z), (fun _ z => nomatch z), (fun _ z => nomatch z)⟩
  refine ⟨s, ?_, G⟩
  unfold t_l_by_worth
  rw [if_pos hl, e]
theorem left_loop (R : List (List Int)) : ∀ L : List (List Int), (forX L (L ++ R) (fun row2 s1 => if ¬ row2 ∈ s1 then Res.ok (.rt false) else (((Res.ok row2)).bind fun a => remR s1 a).bind fun left3 => Res.ok (.nx left3)) : Res (Oc ((List (List Int))) Bool)) = .ok (.nx R)
  | [] => rfl
  | r :: L => by
    unfold forX
    dsimp only
    have m : r ∈ r :: L ++ R := List.mem_cons_self
    rw [if_neg (not_not_intro m), Res.bind_ok, remR_ok m, Res.bind_ok, Res.bind_ok]
    have e : rmv (r :: L ++ R) r = L ++ R := rmv_head r (L ++ R)
    rw [e]
    exact left_loop R L
theorem right_ok {S : List (List Int)} (hs : sortK S = S) (n : Nat) : t_l_group_right S (S.take n) (n : Int) = .ok true := by
  unfold t_l_group_right
  rw [if_neg (by rw [List.length_take]; omega)]
  have := left_loop (S.drop n) (S.take n)
  rw [List.take_append_drop] at this
  rw [this, thenX_nx]
  split
  · rfl
  rename_i z
  have up : (S.take n ++ S.drop n).Pairwise (fun a b => leB a b = true) := by rw [List.take_append_drop, ← hs]; exact sortK_up S
  have up := (List.pairwise_append.mp up).2.2
  cases e1 : S.take n with
  | nil => rw [e1] at z; exact absurd (Or.inr rfl) z
  | cons a A =>
    cases e2 : S.drop n with
    | nil => rw [e2] at z; exact absurd (Or.inl rfl) z
    | cons b B =>
      have x1 := (topR_ok (L := a :: A) rfl).1
      have x2 := (botR_ok (L := b :: B) rfl).1
      rw [e1, e2] at up
      have := up _ x1 _ x2
      show (Res.ok _).bind _ = _
      rw [Res.bind_ok]
      show (Res.ok _).bind _ = _
      rw [Res.bind_ok]
      congr 1
      refine decide_eq_true ?_
      unfold leB at this
      simpa using this
theorem law_typed (s : List Int) (hl : s.length ≤ 63) (hb : ∀ z ∈ s, Sm 1048576 z) : t_law s = .ok true := by
  have c0 := cell_at_eq s 0 (by decide)
  have sm0 : Sm 1048576 (s.getD (0 : Int).toNat 0) := cell_sm hb 0
  generalize s.getD (0 : Int).toNat 0 = x0 at c0 sm0
  have c2 := cell_at_eq s 2 (by decide)
  have sm2 : Sm 1048576 (s.getD (2 : Int).toNat 0) := cell_sm hb 2
  generalize s.getD (2 : Int).toNat 0 = x2 at c2 sm2
  obtain ⟨W, hW, W0, W4⟩ : ∃ W : Nat, 1 + x0 % 4 = (W : Int) ∧ 0 < W ∧ W ≤ 4 := ⟨(1 + x0 % 4).toNat, by omega, by omega, by omega⟩
  have cm : ∀ z ∈ cutL s none (some 40), Sm 1048700 z := fun z hz => (hb z (by unfold cutL at hz; exact List.mem_of_mem_drop (List.mem_of_mem_take hz))).mono (by decide)
  have cl : (cutL s none (some 40)).length ≤ 63 := by unfold cutL; rw [List.length_take, List.length_drop]; omega
  obtain ⟨T, eT, hT, sT, okT⟩ := heap_ok cm (by omega) W0 W4
  have okT : HpOk W T := okT
  have T63 : T.length ≤ 63 := by omega
  obtain ⟨m, em, hm, a, b, hab⟩ := names_ok hb (by omega)
  have hc : Sm 1048700 (x2 + s.sum) := ((sm2.mono (by decide)).add ((Sm.sum hb (by omega)).mono (show 1048582 ≤ 1048590 by decide))).mono (by decide)
  obtain ⟨t, et, ht⟩ := (term_ok hm hc (k := 200) (by decide) (by decide) W0 10).imp fun t ht => ht.ok
  unfold t_law
  rw [c0, c2]
  simp only [Res.bind_ok]
  generalize x2 + s.sum = c at et
  rw [hW, eT, Res.bind_ok, em, Res.bind_ok, et, Res.bind_ok]
  obtain ⟨n, en⟩ : ∃ n : Nat, (if c / 4 % 4 = 1 then Res.ok (1 + c / 16 % 40) else Res.ok (1 + c % 4) : Res Int) = .ok (n : Int) := by
    split
    · exact ⟨(1 + c / 16 % 40).toNat, by congr 1; omega⟩
    · exact ⟨(1 + c % 4).toNat, by congr 1; omega⟩
  rw [en, Res.bind_ok]
  have cs := cap_sub n (wv m t) T
  have h1 : t_heap_of (.tup [.str "cap", t, .int n, .tup [.str "all"]]) T m = .ok (capL n (wv m t) T) := by
    show u_heap_of 12 _ _ _ = _
    rw [heap_cap, heap_all, Res.bind_ok, capped_eq ht okT (by omega), Res.bind_ok, sortKR_ok (Nat.le_trans cs.length_le (by omega)), sorted_sub sT cs]
  show (t_heap_of (.tup [.str "cap", t, .int n, .tup [.str "all"]]) T m).bind _ = _
  have ok2 : HpOk W (capL n (wv m t) T) := fun r hr => okT r (cs.subset hr)
  have l2 := cs.length_le
  rw [h1, Res.bind_ok, good_ok (fun r hr => (ok2 r hr).1) (sorted_sub sT cs) (by omega), Res.bind_ok, Res.bind_ok, if_neg (by simp)]
  obtain ⟨g, eg, G⟩ := grp_ok ht okT (by omega)
  obtain ⟨q, eq, Q⟩ := grp_ok ht ok2 (by omega)
  rw [eg, Res.bind_ok, eq, Res.bind_ok]
  have f1 : ∀ ks : List Int, (∀ k ∈ ks, k ∈ q.map (·.1)) → (forX ks () (fun key18 s17 => if ((getG g key18).isSome != true) = true then Res.ok (.rt false) else Res.ok (.nx ())) : Res (Oc Unit Bool)) = .ok (.nx ()) := by
    intro ks
    induction ks with
    | nil => intro _; rfl
    | cons k ks ih =>
      intro h
      have : (getG g k).isSome = true := get_someG.mpr (by
        obtain ⟨r, hr, rfl⟩ := List.mem_map.mp (Q.key k (h k List.mem_cons_self))
        exact G.all r (cs.subset hr))
      unfold forX
      dsimp only
      rw [this, if_neg (by simp), Res.bind_ok]
      exact ih fun x hx => h x (List.mem_cons_of_mem _ hx)
  rw [f1 _ fun _ h => h, thenX_nx]
  have f2 : ∀ gs : List (Int × List (List Int)), (∀ z ∈ gs, z ∈ g) → (forX gs () (fun z20 s19 => ((t_l_group_right z20.2 ((getG q z20.1).getD ([] : List (List Int))) n).bind fun z => .ok (!z)).bind fun z => if z = true then Res.ok (.rt false) else Res.ok (.nx ())) : Res (Oc Unit Bool)) = .ok (.nx ()) := by
    intro gs
    induction gs with
    | nil => intro _; rfl
    | cons z gs ih =>
      intro h
      unfold forX
      dsimp only
      rw [Q.get, G.is z (h z List.mem_cons_self), cap_filter, right_ok (sorted_sub sT List.filter_sublist) n, Res.bind_ok, Res.bind_ok, if_neg (by simp), Res.bind_ok]
      exact ih fun x hx => h x (List.mem_cons_of_mem _ hx)
  rw [f2 _ fun _ h => h, thenX_nx]
theorem law_holds (ns : List Int) (hl : ns.length ≤ 63) (hb : ∀ z ∈ ns, intBits z ≤ 1048576) : F_law [.lst (ns.map D.int)] = .ok (.bl true) := by
  obtain ⟨d, h1, h2⟩ := (r_law ns _ ⟨_, rfl, _, rfl, A2.fn.mpr rfl⟩).get (law_typed ns hl fun z hz => sm_bits (hb z hz))
  rw [h1, show d = _ from h2]


end DLaw
namespace DLaw
open PySem PySem.Spec PyProof.Rows L2
open DL
abbrev N_l_cell_at : List Str := ["_law_script", "_law_k"]
theorem sc_l_cell_at : FnScope N_l_cell_at ["_law_script", "_law_k"] (defScope s_l_cell_at) := fsc
section
variable {P : Program} {w : World} {K : PySem.W.Frag} {mg : Str → Option Value} {base : Heap} {f : Addr} {fd : FuncData}
theorem ok_l_cell_at (T : Txt K mg) (F : Fun K "_law_cell_at" "_law_cell_at" s_l_cell_at f fd)  :
    FnOk P w K mg base (L2.CX P w) 1 f fd ["_law_script", "_law_k"] (spD K mg 2 F_l_cell_at) :=
  fnD (N := N_l_cell_at) (k := 0) (fb := b_l_cell_at) F sc_l_cell_at fun cdv A outer s H G E hr tk hp =>
    by have hu := Room.hu hr; exact (dss_cons (ds_if (al := []) (dt_cmp (od_lt hu) (dr (dv 1)) (dr (de_b1 c1_len rfl T.z_len rfl (dr (dv 0)))) (nomark _)) (dss_cons (ds_ret (al := []) (de_ixA hr.hu1 (dr (dv 0)) (dv 1) (fun _ _ => rfl) (fun _ _ => rfl))) dss_nil) dss_nil) (dss_cons (ds_ret (al := []) de_int) dss_nil))
abbrev N_l_mix : List Str := ["_law_cell", "_law_k", "_law_m"]
theorem sc_l_mix : FnScope N_l_mix ["_law_cell", "_law_k"] (defScope s_l_mix) := fsc
theorem ok_l_mix (T : Txt K mg) (F : Fun K "_law_mix" "_law_mix" s_l_mix f fd)  :
    FnOk P w K mg base (L2.CX P w) 1 f fd ["_law_cell", "_law_k"] (spD K mg 2 F_l_mix) :=
  fnD (N := N_l_mix) (k := 0) (fb := b_l_mix) F sc_l_mix fun cdv A outer s H G E hr tk hp =>
    by exact (dss_cons (dsS [] 2 sc_l_mix.nd (de_bin od_mod (dr (de_bin od_add (dr (de_bin od_mul (dr (dv 0)) (dr de_int))) (dr (de_bin od_mul (dr (de_bin od_mul (dr (de_bin od_add (dr (dv 1)) (dr de_int))) (dr (de_bin od_add (dr (dv 1)) (dr de_int))))) (dr de_int))))) (dr de_int))) (dss_cons (ds_ret (al := []) (de_bin od_mod (dr (de_bin od_mul (dr (dv 2)) (dr (dv 2)))) (dr de_int))) dss_nil))
abbrev N_l_number : List Str := ["_law_cell", "_law_k", "_law_many", "_law_n"]
theorem sc_l_number : FnScope N_l_number ["_law_cell", "_law_k", "_law_many"] (defScope s_l_number) := fsc
theorem ok_l_number (T : Txt K mg) (F : Fun K "_law_number" "_law_number" s_l_number f fd) (c_l_mix : CallOk P w K mg base 1 "_law_mix" ["_law_cell", "_law_k"] F_l_mix) :
    FnOk P w K mg base (L2.CX P w) 2 f fd ["_law_cell", "_law_k", "_law_many"] (spD K mg 3 F_l_number) :=
  fnD (N := N_l_number) (k := 1) (fb := b_l_number) F sc_l_number fun cdv A outer s H G E hr tk hp =>
    by have hu := Room.hu hr; exact (dss_cons (dsS [] 3 sc_l_number.nd (de_callE c_l_mix hr rfl tk (da_cons (dv 0) (da_cons (dv 1) da_nil)) (leq_cons (leq_cons leq_nil)))) (dss_cons (ds_if (al := []) (dt_cmp (od_eq hu) (dr (de_bin od_mod (dr (dv 3)) (dr de_int))) (dr de_int) (nomark _)) (dss_cons (ds_ret (al := []) (de_bin od_sub (dr (de_bin od_mod (dr (dv 0)) (dr (de_bin od_add (dr (de_bin od_mul (dr de_int) (dr (de_bin od_pow (dr de_int) (dr de_int))))) (dr de_int))))) (dr (de_bin od_pow (dr de_int) (dr de_int))))) dss_nil) dss_nil) (dss_cons (ds_ret (al := []) (de_bin od_sub (dr (de_bin od_mod (dr (de_bin od_div (dr (dv 3)) (dr de_int))) (dr (dv 2)))) (dr (de_bin od_div (dr (dv 2)) (dr de_int))))) dss_nil)))
abbrev N_l_heap : List Str := ["_law_cells", "_law_width", "_law_many", "_law_rows", "_law_cell", "_law_j"]
theorem sc_l_heap : FnScope N_l_heap ["_law_cells", "_law_width"] (defScope s_l_heap) := fsc
theorem ok_l_heap (T : Txt K mg) (F : Fun K "_law_heap" "_law_heap" s_l_heap f fd) (c_l_number : CallOk P w K mg base 2 "_law_number" ["_law_cell", "_law_k", "_law_many"] F_l_number) :
    FnOk P w K mg base (L2.CX P w) 3 f fd ["_law_cells", "_law_width"] (spD K mg 2 F_l_heap) :=
  fnD (N := N_l_heap) (k := 2) (fb := b_l_heap) F sc_l_heap fun cdv A outer s H G E hr tk hp =>
    by have hu := Room.hu hr; exact (dss_cons (dsS [] 2 sc_l_heap.nd (de_ixA hr.hu1 (dr (de_of (df_lst (da_cons de_int (da_cons de_int (da_cons de_int (da_cons de_int da_nil)))) (len_cons (len_cons (len_cons (len_cons len_nil)))) (szl (by decide))))) (de_bin od_sub (dr (dv 1)) (dr de_int)) (fun _ _ => rfl) (fun _ _ => rfl))) (dss_cons (ds_setF (al := []) (i := 3) sc_l_heap.nd rfl (by first | exact .inl rfl | exact .inr rfl) (df_lst da_nil len_nil (szl (by decide)))) (dss_cons (ds_for (al := []) hp rfl (di_seq (dv 0)) (dgN 4 sc_l_heap.nd) (fun _ => (dss_cons (ds_mut (al := []) (i := 3) PySem.F.slot_list_append PySem.F.type_list_append mut_append rfl (by first | exact .inl rfl | exact .inr (.inl rfl) | exact .inr (.inr rfl)) (da_cons (de_t1 c1_tuple rfl T.z_tuple rfl (dr (de_of (df_comp (own := [("_law_j", 5)]) rfl sc_l_heap.nd (dir_of (di_range1 rfl T.z_range (dv 1))) (blkOk_by (N := N_l_heap) (sc := defScope s_l_heap) (by decide +kernel)) (fun _ _ _ _ _ => (dgN 5 sc_l_heap.nd)) (fun _ _ _ _ _ => dts_nil) (fun _ _ _ _ _ => (de_callE c_l_number hr rfl takes0 (da_cons (dv 4) (da_cons (de_bin od_add (dr de_int) (dr (de_bin od_mul (dr de_int) (dr (dv 5))))) (da_cons (dv 2) da_nil))) (leq_cons (leq_cons (leq_cons leq_nil))))) (by decide))))) da_nil)) dss_nil))) (dss_cons (ds_ret (al := []) (de_t1 c1_tuple rfl T.z_tuple rfl (dr (de_of (df_b1 (c1_sorted rfl hu) rfl T.z_sorted rfl (drV 3)))))) dss_nil))))
abbrev N_l_names : List Str := ["_law_script"]
theorem sc_l_names : FnScope N_l_names ["_law_script"] (defScope s_l_names) := fsc
theorem ok_l_names (T : Txt K mg) (F : Fun K "_law_names" "_law_names" s_l_names f fd) (c_l_number : CallOk P w K mg base 2 "_law_number" ["_law_cell", "_law_k", "_law_many"] F_l_number) :
    FnOk P w K mg base (L2.CX P w) 3 f fd ["_law_script"] (spD K mg 1 F_l_names) :=
  fnD (N := N_l_names) (k := 2) (fb := b_l_names) F sc_l_names fun cdv A outer s H G E hr tk hp =>
    by exact (dss_cons (ds_ret (al := []) (de_of (df_disp (dps_str pe_str (de_callE c_l_number hr rfl tk (da_cons (de_b1 (c1_sum rfl) rfl T.z_sum rfl (dr (dv 0))) (da_cons de_int (da_cons de_int da_nil))) (leq_cons (leq_cons (leq_cons leq_nil)))) (dps_str pe_str (de_callE c_l_number hr rfl tk (da_cons (de_b1 (c1_sum rfl) rfl T.z_sum rfl (dr (dv 0))) (da_cons de_int (da_cons de_int da_nil))) (leq_cons (leq_cons (leq_cons leq_nil)))) dps_nil)) rfl rfl (by simp) (by decide) (by decide +kernel) (by decide)))) dss_nil)
abbrev N_l_leaf : List Str := ["_law_cell", "_law_k", "_law_width", "_law_n"]
theorem sc_l_leaf : FnScope N_l_leaf ["_law_cell", "_law_k", "_law_width"] (defScope s_l_leaf) := fsc
theorem ok_l_leaf (T : Txt K mg) (F : Fun K "_law_leaf" "_law_leaf" s_l_leaf f fd) (c_l_mix : CallOk P w K mg base 2 "_law_mix" ["_law_cell", "_law_k"] F_l_mix) (c_l_number : CallOk P w K mg base 2 "_law_number" ["_law_cell", "_law_k", "_law_many"] F_l_number) :
    FnOk P w K mg base (L2.CX P w) 3 f fd ["_law_cell", "_law_k", "_law_width"] (spD K mg 3 F_l_leaf) :=
  fnD (N := N_l_leaf) (k := 2) (fb := b_l_leaf) F sc_l_leaf fun cdv A outer s H G E hr tk hp =>
    by have hu := Room.hu hr; exact (dss_cons (dsS [] 3 sc_l_leaf.nd (de_callE c_l_mix hr rfl tk (da_cons (dv 0) (da_cons (dv 1) da_nil)) (leq_cons (leq_cons leq_nil)))) (dss_cons (ds_if (al := []) (dt_cmp (od_eq hu) (dr (de_bin od_mod (dr (dv 3)) (dr de_int))) (dr de_int) (nomark _)) (dss_cons (ds_ret (al := []) (de_tup (da_cons de_str (da_cons (de_callE c_l_number hr rfl tk (da_cons (dv 0) (da_cons (de_bin od_add (dr (dv 1)) (dr de_int)) (da_cons de_int da_nil))) (leq_cons (leq_cons (leq_cons leq_nil)))) da_nil)) (len_cons (len_cons len_nil)) (szl (by decide)))) dss_nil) dss_nil) (dss_cons (ds_if (al := []) (dt_cmp (od_eq hu) (dr (de_bin od_mod (dr (dv 3)) (dr de_int))) (dr de_int) (nomark _)) (dss_cons (ds_ret (al := []) (de_tup (da_cons de_str (da_cons (de_ixA hr.hu1 (dr (de_of (df_lst (da_cons de_str (da_cons de_str (da_cons de_str da_nil))) (len_cons (len_cons (len_cons len_nil))) (szl (by decide))))) (de_bin od_mod (dr (de_bin od_div (dr (dv 3)) (dr de_int))) (dr de_int)) (fun _ _ => rfl) (fun _ _ => rfl)) da_nil)) (len_cons (len_cons len_nil)) (szl (by decide)))) dss_nil) dss_nil) (dss_cons (ds_ret (al := []) (de_tup (da_cons de_str (da_cons (de_bin od_mod (dr (de_bin od_div (dr (dv 3)) (dr de_int))) (dr (dv 2))) da_nil)) (len_cons (len_cons len_nil)) (szl (by decide)))) dss_nil))))
abbrev N_l_term : List Str := ["_law_cell", "_law_k", "_law_width", "_law_n", "_law_one", "_law_two", "_law_way", "_law_ops"]
theorem sc_l_term : FnScope N_l_term ["_law_cell", "_law_k", "_law_width"] (defScope s_l_term) := fsc
theorem ok_l_term (T : Txt K mg) (F : Fun K "_law_term" "_law_term" s_l_term f fd) (c_l_mix : CallOk P w K mg base 3 "_law_mix" ["_law_cell", "_law_k"] F_l_mix) (c_l_leaf : CallOk P w K mg base 3 "_law_leaf" ["_law_cell", "_law_k", "_law_width"] F_l_leaf) :
    FnOk P w K mg base (L2.CX P w) 4 f fd ["_law_cell", "_law_k", "_law_width"] (spD K mg 3 F_l_term) :=
  fnD (N := N_l_term) (k := 3) (fb := b_l_term) F sc_l_term fun cdv A outer s H G E hr tk hp =>
    by have hu := Room.hu hr; exact (dss_cons (dsS [] 3 sc_l_term.nd (de_callE c_l_mix hr rfl tk (da_cons (dv 0) (da_cons (dv 1) da_nil)) (leq_cons (leq_cons leq_nil)))) (dss_cons (dsS [] 4 sc_l_term.nd (de_callE c_l_leaf hr rfl tk (da_cons (dv 0) (da_cons (de_bin od_add (dr (dv 1)) (dr de_int)) (da_cons (dv 2) da_nil))) (leq_cons (leq_cons (leq_cons leq_nil))))) (dss_cons (dsS [] 5 sc_l_term.nd (de_callE c_l_leaf hr rfl tk (da_cons (dv 0) (da_cons (de_bin od_add (dr (dv 1)) (dr de_int)) (da_cons (dv 2) da_nil))) (leq_cons (leq_cons (leq_cons leq_nil))))) (dss_cons (dsS [] 6 sc_l_term.nd (de_bin od_mod (dr (dv 3)) (dr de_int))) (dss_cons (ds_if (al := []) (dt_cmp (od_lt hu) (dr (dv 6)) (dr de_int) (nomark _)) (dss_cons (ds_ret (al := []) (dv 4)) dss_nil) dss_nil) (dss_cons (ds_if (al := []) (dt_cmp (od_eq hu) (dr (dv 6)) (dr de_int) (nomark _)) (dss_cons (ds_ret (al := []) (de_tup (da_cons de_str (da_cons (dv 4) da_nil)) (len_cons (len_cons len_nil)) (szl (by decide)))) dss_nil) dss_nil) (dss_cons (ds_if (al := []) (dt_cmp (od_eq hu) (dr (dv 6)) (dr de_int) (nomark _)) (dss_cons (ds_ret (al := []) (de_tup (da_cons de_str (da_cons (dv 4) (da_cons (dv 5) (da_cons (de_callE c_l_leaf hr rfl tk (da_cons (dv 0) (da_cons (de_bin od_add (dr (dv 1)) (dr de_int)) (da_cons (dv 2) da_nil))) (leq_cons (leq_cons (leq_cons leq_nil)))) da_nil)))) (len_cons (len_cons (len_cons (len_cons len_nil)))) (szl (by decide)))) dss_nil) dss_nil) (dss_cons (dsS [] 7 sc_l_term.nd (de_of (df_lst (da_cons de_str (da_cons de_str (da_cons de_str (da_cons de_str (da_cons de_str (da_cons de_str (da_cons de_str (da_cons de_str da_nil)))))))) (len_cons (len_cons (len_cons (len_cons (len_cons (len_cons (len_cons (len_cons len_nil)))))))) (szl (by decide))))) (dss_cons (ds_ret (al := []) (de_tup (da_cons (de_ixA hr.hu1 (dr (dv 7)) (de_bin od_mod (dr (de_bin od_div (dr (dv 3)) (dr de_int))) (dr de_int)) (fun _ _ => rfl) (fun _ _ => rfl)) (da_cons (dv 4) (da_cons (dv 5) da_nil))) (len_cons (len_cons (len_cons len_nil))) (szl (by decide)))) dss_nil)))))))))
abbrev N_field_at : List Str := ["row", "k"]
theorem sc_field_at : FnScope N_field_at ["row", "k"] (defScope s_field_at) := fsc
theorem ok_field_at (T : Txt K mg) (F : Fun K "field_at" "field_at" s_field_at f fd)  :
    FnOk P w K mg base (L2.CX P w) 1 f fd ["row", "k"] (spD K mg 2 F_field_at) :=
  fnD (N := N_field_at) (k := 0) (fb := b_field_at) F sc_field_at fun cdv A outer s H G E hr tk hp =>
    by have hu := Room.hu hr; exact (dss_cons (ds_if (al := []) (dt_cmp (od_lt hu) (dr (dv 1)) (dr (de_b1 c1_len rfl T.z_len rfl (dr (dv 0)))) (nomark _)) (dss_cons (ds_ret (al := []) (de_ixA hr.hu1 (dr (dv 0)) (dv 1) (fun _ _ => rfl) (fun _ _ => rfl))) dss_nil) dss_nil) (dss_cons (ds_ret (al := []) de_int) dss_nil))
abbrev N_held : List Str := ["n"]
theorem sc_held : FnScope N_held ["n"] (defScope s_held) := fsc
theorem ok_held (T : Txt K mg) (F : Fun K "held" "held" s_held f fd)  :
    FnOk P w K mg base (L2.CX P w) 1 f fd ["n"] (spD K mg 1 F_held) :=
  fnD (N := N_held) (k := 0) (fb := b_held) F sc_held fun cdv A outer s H G E hr tk hp =>
    by exact (dss_cons (ds_ret (al := []) (de_b2 (c2_max rfl) rfl T.z_max rfl (dr (de_neg (de_con T.c_MOST rfl))) (dr (de_b2 (c2_min rfl) rfl T.z_min rfl (dr (de_con T.c_MOST rfl)) (dr (dv 0)))))) dss_nil)
abbrev N_worked : List Str := ["op", "x", "y"]
theorem sc_worked : FnScope N_worked ["op", "x", "y"] (defScope s_worked) := fsc
theorem ok_worked (T : Txt K mg) (F : Fun K "worked" "worked" s_worked f fd)  :
    FnOk P w K mg base (L2.CX P w) 1 f fd ["op", "x", "y"] (spD K mg 3 F_worked) :=
  fnD (N := N_worked) (k := 0) (fb := b_worked) F sc_worked fun cdv A outer s H G E hr tk hp =>
    by have hu := Room.hu hr; exact (dss_cons (ds_if (al := []) (dt_cmp (od_eq hu) (dr (dv 0)) (dr de_str) (nomark _)) (dss_cons (ds_ret (al := []) (de_bin od_add (dr (dv 1)) (dr (dv 2)))) dss_nil) dss_nil) (dss_cons (ds_if (al := []) (dt_cmp (od_eq hu) (dr (dv 0)) (dr de_str) (nomark _)) (dss_cons (ds_ret (al := []) (de_bin od_sub (dr (dv 1)) (dr (dv 2)))) dss_nil) dss_nil) (dss_cons (ds_if (al := []) (dt_cmp (od_eq hu) (dr (dv 0)) (dr de_str) (nomark _)) (dss_cons (ds_ret (al := []) (de_bin od_mul (dr (dv 1)) (dr (dv 2)))) dss_nil) dss_nil) (dss_cons (ds_if (al := []) (dt_cmp (od_eq hu) (dr (dv 2)) (dr de_int) (nomark _)) (dss_cons (ds_ret (al := []) de_int) dss_nil) dss_nil) (dss_cons (ds_ret (al := []) (de_bin od_div (dr (dv 1)) (dr (dv 2)))) dss_nil)))))
abbrev N_marked : List Str := ["op", "x", "y"]
theorem sc_marked : FnScope N_marked ["op", "x", "y"] (defScope s_marked) := fsc
theorem ok_marked (T : Txt K mg) (F : Fun K "marked" "marked" s_marked f fd)  :
    FnOk P w K mg base (L2.CX P w) 1 f fd ["op", "x", "y"] (spD K mg 3 F_marked) :=
  fnD (N := N_marked) (k := 0) (fb := b_marked) F sc_marked fun cdv A outer s H G E hr tk hp =>
    by have hu := Room.hu hr; exact (dss_cons (ds_if (al := []) (dt_cmp (od_eq hu) (dr (dv 0)) (dr de_str) (nomark _)) (dss_cons (ds_ret (al := []) (de_cmp (od_lt hu) (dr (dv 1)) (dr (dv 2)) (nomark _))) dss_nil) dss_nil) (dss_cons (ds_if (al := []) (dt_cmp (od_eq hu) (dr (dv 0)) (dr de_str) (nomark _)) (dss_cons (ds_ret (al := []) (de_cmp (od_eq hu) (dr (dv 1)) (dr (dv 2)) (nomark _))) dss_nil) dss_nil) (dss_cons (ds_if (al := []) (dt_cmp (od_eq hu) (dr (dv 0)) (dr de_str) (nomark _)) (dss_cons (ds_ret (al := []) (de_and (de_cmp (od_ne hu) (dr (dv 1)) (dr de_int) (nomark _)) (de_one (de_cmp (od_ne hu) (dr (dv 2)) (dr de_int) (nomark _))))) dss_nil) dss_nil) (dss_cons (ds_ret (al := []) (de_or (de_cmp (od_ne hu) (dr (dv 1)) (dr de_int) (nomark _)) (de_one (de_cmp (od_ne hu) (dr (dv 2)) (dr de_int) (nomark _))))) dss_nil))))
abbrev N_reckoned : List Str := ["op", "parts"]
theorem sc_reckoned : FnScope N_reckoned ["op", "parts"] (defScope s_reckoned) := fsc
theorem ok_reckoned (T : Txt K mg) (F : Fun K "reckoned" "reckoned" s_reckoned f fd) (c_held : CallOk P w K mg base 1 "held" ["n"] F_held) (c_worked : CallOk P w K mg base 1 "worked" ["op", "x", "y"] F_worked) (c_marked : CallOk P w K mg base 1 "marked" ["op", "x", "y"] F_marked) :
    FnOk P w K mg base (L2.CX P w) 2 f fd ["op", "parts"] (spD K mg 2 F_reckoned) :=
  fnD (N := N_reckoned) (k := 1) (fb := b_reckoned) F sc_reckoned fun cdv A outer s H G E hr tk hp =>
    by have hu := Room.hu hr; exact (dss_cons (ds_if (al := []) (dt_cmp (od_eq hu) (dr (dv 0)) (dr de_str) (nomark _)) (dss_cons (ds_ret (al := []) (de_t1 c1_int rfl T.z_int rfl (dr (de_cmp (od_eq hu) (dr (dXi 1)) (dr de_int) (nomark _))))) dss_nil) dss_nil) (dss_cons (ds_if (al := []) (dt_cmp (od_eq hu) (dr (dv 0)) (dr de_str) (nomark _)) (dss_cons (ds_if (al := []) (dt_cmp (od_ne hu) (dr (dXi 1)) (dr de_int) (nomark _)) (dss_cons (ds_ret (al := []) (dXi 1)) dss_nil) dss_nil) (dss_cons (ds_ret (al := []) (dXi 1)) dss_nil)) dss_nil) (dss_cons (ds_if (al := []) (dt_w (dw_or (dt_cmp (od_eq hu) (dr (dv 0)) (dr de_str) (nomark _)) (dw_or (dt_cmp (od_eq hu) (dr (dv 0)) (dr de_str) (nomark _)) (dw_or (dt_cmp (od_eq hu) (dr (dv 0)) (dr de_str) (nomark _)) (dw_or1 (dt_cmp (od_eq hu) (dr (dv 0)) (dr de_str) (nomark _))))))) (dss_cons (ds_ret (al := []) (de_callE c_held hr rfl tk (da_cons (de_callE c_worked hr rfl tk (da_cons (dv 0) (da_cons (dXi 1) (da_cons (dXi 1) da_nil))) (leq_cons (leq_cons (leq_cons leq_nil)))) da_nil) (leq_cons leq_nil))) dss_nil) dss_nil) (dss_cons (ds_ret (al := []) (de_t1 c1_int rfl T.z_int rfl (dr (de_callE c_marked hr rfl tk (da_cons (dv 0) (da_cons (dXi 1) (da_cons (dXi 1) da_nil))) (leq_cons (leq_cons (leq_cons leq_nil))))))) dss_nil))))
abbrev N_worth : List Str := ["term", "row", "names", "part"]
theorem sc_worth : FnScope N_worth ["term", "row", "names"] (defScope s_worth) := fsc
theorem ok_worth {k : Nat} {G : List D → Res D} (T : Txt K mg) (F : Fun K "worth" "worth" s_worth f fd) (c_field_at : CallOk P w K mg base k "field_at" ["row", "k"] F_field_at) (c_reckoned : CallOk P w K mg base k "reckoned" ["op", "parts"] F_reckoned) (c_worth : CallOk P w K mg base k "worth" ["term", "row", "names"] G) :
    FnOk P w K mg base (L2.CX P w) (k + 1) f fd ["term", "row", "names"] (spD K mg 3 (runDef 3 4 (b_worth G))) :=
  fnD (N := N_worth) (k := k) (fb := b_worth G) F sc_worth fun cdv A outer s H _ E hr tk hp =>
    by have hu := Room.hu hr; exact (dss_cons (ds_if (al := []) (dt_cmp (od_eq hu) (dr (dXi 0)) (dr de_str) (nomark _)) (dss_cons (ds_ret (al := []) (dXi 0)) dss_nil) dss_nil) (dss_cons (ds_if (al := []) (dt_cmp (od_eq hu) (dr (dXi 0)) (dr de_str) (nomark _)) (dss_cons (ds_ret (al := []) (de_callE c_field_at hr rfl tk (da_cons (dv 1) (da_cons (dXi 0) da_nil)) (leq_cons (leq_cons leq_nil)))) dss_nil) dss_nil) (dss_cons (ds_if (al := []) (dt_cmp (od_eq hu) (dr (dXi 0)) (dr de_str) (nomark _)) (dss_cons (ds_ret (al := []) (de_get2 hr.hu1 (dr (dv 2)) (dXi 0) de_int ⟨rfl, rfl, rfl, rfl⟩)) dss_nil) dss_nil) (dss_cons (ds_ret (al := []) (de_callE c_reckoned hr rfl tk (da_cons (dXi 0) (da_cons (de_of (df_comp (own := [("part", 3)]) rfl sc_worth.nd (dir_of (di_seq (de_cut (dr (dv 0)) (do_some de_int) do_none))) (blkOk_by (N := N_worth) (sc := defScope s_worth) (by decide +kernel)) (fun _ _ _ _ _ => (dgN 3 sc_worth.nd)) (fun _ _ _ _ _ => dts_nil) (fun _ _ _ _ _ => (de_callE c_worth hr rfl takes0 (da_cons (dv 3) (da_cons (dv 1) (da_cons (dv 2) da_nil))) (leq_cons (leq_cons (leq_cons leq_nil))))) (by decide))) da_nil)) (leq_cons (leq_cons leq_nil)))) dss_nil))))
abbrev N_kept_rows : List Str := ["term", "heap", "names", "row"]
theorem sc_kept_rows : FnScope N_kept_rows ["term", "heap", "names"] (defScope s_kept_rows) := fsc
theorem ok_kept_rows (T : Txt K mg) (F : Fun K "kept_rows" "kept_rows" s_kept_rows f fd) (c_worth : CallOk P w K mg base 14 "worth" ["term", "row", "names"] F_worth) :
    FnOk P w K mg base (L2.CX P w) 15 f fd ["term", "heap", "names"] (spD K mg 3 F_kept_rows) :=
  fnD (N := N_kept_rows) (k := 14) (fb := b_kept_rows) F sc_kept_rows fun cdv A outer s H G E hr tk hp =>
    by have hu := Room.hu hr; exact (dss_cons (ds_ret (al := []) (de_of (df_comp (own := [("row", 3)]) rfl sc_kept_rows.nd (dir_of (di_seq (dv 1))) (blkOk_by (N := N_kept_rows) (sc := defScope s_kept_rows) (by decide +kernel)) (fun _ _ _ _ _ => (dgN 3 sc_kept_rows.nd)) (fun _ _ _ _ _ => (dts_one (dt_cmp (od_ne hu) (dr (de_callE c_worth hr rfl takes0 (da_cons (dv 0) (da_cons (dv 3) (da_cons (dv 2) da_nil))) (leq_cons (leq_cons (leq_cons leq_nil))))) (dr de_int) (nomark _)))) (fun _ _ _ _ _ => (dv 3)) (by decide)))) dss_nil)
abbrev N_made_rows : List Str := ["lists", "heap", "names", "made", "row", "terms", "term"]
theorem sc_made_rows : FnScope N_made_rows ["lists", "heap", "names"] (defScope s_made_rows) := fsc
theorem ok_made_rows (T : Txt K mg) (F : Fun K "made_rows" "made_rows" s_made_rows f fd) (c_worth : CallOk P w K mg base 14 "worth" ["term", "row", "names"] F_worth) :
    FnOk P w K mg base (L2.CX P w) 15 f fd ["lists", "heap", "names"] (spD K mg 3 F_made_rows) :=
  fnD (N := N_made_rows) (k := 14) (fb := b_made_rows) F sc_made_rows fun cdv A outer s H G E hr tk hp =>
    by exact (dss_cons (ds_setF (al := []) (i := 3) sc_made_rows.nd rfl (by first | exact .inl rfl | exact .inr rfl) (df_lst da_nil len_nil (szl (by decide)))) (dss_cons (ds_for (al := []) hp rfl (di_seq (dv 1)) (dgN 4 sc_made_rows.nd) (fun _ => (dss_cons (ds_for (al := []) hp rfl (di_seq (dv 0)) (dgN 5 sc_made_rows.nd) (fun _ => (dss_cons (ds_mut (al := []) (i := 3) PySem.F.slot_list_append PySem.F.type_list_append mut_append rfl (by first | exact .inl rfl | exact .inr (.inl rfl) | exact .inr (.inr rfl)) (da_cons (de_t1 c1_tuple rfl T.z_tuple rfl (dr (de_of (df_comp (own := [("term", 6)]) rfl sc_made_rows.nd (dir_of (di_seq (dv 5))) (blkOk_by (N := N_made_rows) (sc := defScope s_made_rows) (by decide +kernel)) (fun _ _ _ _ _ => (dgN 6 sc_made_rows.nd)) (fun _ _ _ _ _ => dts_nil) (fun _ _ _ _ _ => (de_callE c_worth hr rfl takes0 (da_cons (dv 6) (da_cons (dv 4) (da_cons (dv 2) da_nil))) (leq_cons (leq_cons (leq_cons leq_nil))))) (by decide))))) da_nil)) dss_nil))) dss_nil))) (dss_cons (ds_ret (al := [3]) (de_var (i := 3) rfl (by first | exact .inl rfl | exact .inr (.inl rfl) | exact .inr (.inr rfl)) (by decide))) dss_nil)))
abbrev N_unlike_rows : List Str := ["heap", "made", "row"]
theorem sc_unlike_rows : FnScope N_unlike_rows ["heap"] (defScope s_unlike_rows) := fsc
theorem ok_unlike_rows (T : Txt K mg) (F : Fun K "unlike_rows" "unlike_rows" s_unlike_rows f fd)  :
    FnOk P w K mg base (L2.CX P w) 1 f fd ["heap"] (spD K mg 1 F_unlike_rows) :=
  fnD (N := N_unlike_rows) (k := 0) (fb := b_unlike_rows) F sc_unlike_rows fun cdv A outer s H G E hr tk hp =>
    by have hu := Room.hu hr; exact (dss_cons (ds_setF (al := []) (i := 1) sc_unlike_rows.nd rfl (by first | exact .inl rfl | exact .inr rfl) (df_lst da_nil len_nil (szl (by decide)))) (dss_cons (ds_for (al := []) hp rfl (di_seq (dv 0)) (dgN 2 sc_unlike_rows.nd) (fun _ => (dss_cons (ds_if (al := []) (dt_w (dw_or (dt_cmp (od_eq hu) (dr (de_b1 c1_len rfl T.z_len rfl (drV 1))) (dr de_int) (nomark _)) (dw_or1 (dt_cmp (od_ne hu) (dr (de_ix (drV 1) (dr (de_neg de_int)) (fun _ _ => rfl))) (dr (dv 2)) (nomark _))))) (dss_cons (ds_mut (al := []) (i := 1) PySem.F.slot_list_append PySem.F.type_list_append mut_append rfl (by first | exact .inl rfl | exact .inr (.inl rfl) | exact .inr (.inr rfl)) (da_cons (dv 2) da_nil)) dss_nil) dss_nil) dss_nil))) (dss_cons (ds_ret (al := [1]) (de_var (i := 1) rfl (by first | exact .inl rfl | exact .inr (.inl rfl) | exact .inr (.inr rfl)) (by decide))) dss_nil)))
abbrev N_capped_rows : List Str := ["term", "many", "heap", "names", "met", "made", "row", "key"]
theorem sc_capped_rows : FnScope N_capped_rows ["term", "many", "heap", "names"] (defScope s_capped_rows) := fsc
theorem ok_capped_rows (T : Txt K mg) (F : Fun K "capped_rows" "capped_rows" s_capped_rows f fd) (c_worth : CallOk P w K mg base 14 "worth" ["term", "row", "names"] F_worth) :
    FnOk P w K mg base (L2.CX P w) 15 f fd ["term", "many", "heap", "names"] (spD K mg 4 F_capped_rows) :=
  fnD (N := N_capped_rows) (k := 14) (fb := b_capped_rows) F sc_capped_rows fun cdv A outer s H G E hr tk hp =>
    by have hu := Room.hu hr; exact (dss_cons (ds_setF (al := []) (i := 4) sc_capped_rows.nd rfl (by first | exact .inl rfl | exact .inr rfl) df_dnewK) (dss_cons (ds_setF (al := []) (i := 5) sc_capped_rows.nd rfl (by first | exact .inl rfl | exact .inr rfl) (df_lst da_nil len_nil (szl (by decide)))) (dss_cons (ds_for (al := []) hp rfl (di_seq (dv 2)) (dgN 6 sc_capped_rows.nd) (fun _ => (dss_cons (dsS [] 7 sc_capped_rows.nd (de_callE c_worth hr rfl tk (da_cons (dv 0) (da_cons (dv 6) (da_cons (dv 3) da_nil))) (leq_cons (leq_cons (leq_cons leq_nil))))) (dss_cons (ds_putD (al := []) (i := 4) hr.hu1 rfl (by first | exact .inl rfl | exact .inr (.inl rfl) | exact .inr (.inr rfl)) (dv 7) (de_bin od_add (dr (de_get2 hr.hu1 (drV 4) (dv 7) de_int ⟨rfl, rfl, rfl, rfl⟩)) (dr de_int))) (dss_cons (ds_if (al := []) (dt_cmp (od_le hu) (dr (de_dix hr.hu1 (drV 4) (dv 7) (fun _ _ => rfl))) (dr (dv 1)) (nomark _)) (dss_cons (ds_mut (al := []) (i := 5) PySem.F.slot_list_append PySem.F.type_list_append mut_append rfl (by first | exact .inl rfl | exact .inr (.inl rfl) | exact .inr (.inr rfl)) (da_cons (dv 6) da_nil)) dss_nil) dss_nil) dss_nil))))) (dss_cons (ds_ret (al := [5]) (de_var (i := 5) rfl (by first | exact .inl rfl | exact .inr (.inl rfl) | exact .inr (.inr rfl)) (by decide))) dss_nil))))
abbrev N_matched_rows : List Str := ["pairs", "term", "heap", "names", "made", "row", "key", "number", "more"]
theorem sc_matched_rows : FnScope N_matched_rows ["pairs", "term", "heap", "names"] (defScope s_matched_rows) := fsc
theorem ok_matched_rows (T : Txt K mg) (F : Fun K "matched_rows" "matched_rows" s_matched_rows f fd) (c_worth : CallOk P w K mg base 14 "worth" ["term", "row", "names"] F_worth) :
    FnOk P w K mg base (L2.CX P w) 15 f fd ["pairs", "term", "heap", "names"] (spD K mg 4 F_matched_rows) :=
  fnD (N := N_matched_rows) (k := 14) (fb := b_matched_rows) F sc_matched_rows fun cdv A outer s H G E hr tk hp =>
    by have hu := Room.hu hr; exact (dss_cons (ds_setF (al := []) (i := 4) sc_matched_rows.nd rfl (by first | exact .inl rfl | exact .inr rfl) (df_lst da_nil len_nil (szl (by decide)))) (dss_cons (ds_for (al := []) hp rfl (di_seq (dv 2)) (dgN 5 sc_matched_rows.nd) (fun _ => (dss_cons (dsS [] 6 sc_matched_rows.nd (de_callE c_worth hr rfl tk (da_cons (dv 1) (da_cons (dv 5) (da_cons (dv 3) da_nil))) (leq_cons (leq_cons (leq_cons leq_nil))))) (dss_cons (ds_for (al := []) hp rfl (di_seq (dv 0)) (dg_tup rfl (dgs_cons (dgN 7 sc_matched_rows.nd) (dgs_cons (dgN 8 sc_matched_rows.nd) dgs_nil)) rfl) (fun _ => (dss_cons (ds_if (al := []) (dt_cmp (od_eq hu) (dr (dv 7)) (dr (dv 6)) (nomark _)) (dss_cons (ds_mut (al := []) (i := 4) PySem.F.slot_list_append PySem.F.type_list_append mut_append rfl (by first | exact .inl rfl | exact .inr (.inl rfl) | exact .inr (.inr rfl)) (da_cons (de_bin od_add (dr (dv 5)) (dr (dv 8))) da_nil)) dss_nil) dss_nil) dss_nil))) dss_nil)))) (dss_cons (ds_ret (al := [4]) (de_var (i := 4) rfl (by first | exact .inl rfl | exact .inr (.inl rfl) | exact .inr (.inr rfl)) (by decide))) dss_nil)))
abbrev N_heap_of : List Str := ["view", "table", "names", "kind", "heap", "made"]
theorem sc_heap_of : FnScope N_heap_of ["view", "table", "names"] (defScope s_heap_of) := fsc
theorem ok_heap_of {k : Nat} {G : List D → Res D} (T : Txt K mg) (F : Fun K "heap_of" "heap_of" s_heap_of f fd) (c_heap_of : CallOk P w K mg base k "heap_of" ["view", "table", "names"] G) (c_kept_rows : CallOk P w K mg base k "kept_rows" ["term", "heap", "names"] F_kept_rows) (c_made_rows : CallOk P w K mg base k "made_rows" ["lists", "heap", "names"] F_made_rows) (c_unlike_rows : CallOk P w K mg base k "unlike_rows" ["heap"] F_unlike_rows) (c_capped_rows : CallOk P w K mg base k "capped_rows" ["term", "many", "heap", "names"] F_capped_rows) (c_matched_rows : CallOk P w K mg base k "matched_rows" ["pairs", "term", "heap", "names"] F_matched_rows) :
    FnOk P w K mg base (L2.CX P w) (k + 1) f fd ["view", "table", "names"] (spD K mg 3 (runDef 3 6 (b_heap_of G))) :=
  fnD (N := N_heap_of) (k := k) (fb := b_heap_of G) F sc_heap_of fun cdv A outer s H _ E hr tk hp =>
    by have hu := Room.hu hr; exact (dss_cons (dsS [] 3 sc_heap_of.nd (dXi 0)) (dss_cons (ds_if (al := []) (dt_cmp (od_eq hu) (dr (dv 3)) (dr de_str) (nomark _)) (dss_cons (ds_ret (al := []) (de_t1 c1_tuple rfl T.z_tuple rfl (dr (dv 1)))) dss_nil) dss_nil) (dss_cons (ds_if (al := []) (dt_cmp (od_eq hu) (dr (dv 3)) (dr de_str) (nomark _)) (dss_cons (ds_ret (al := []) (de_t1 c1_tuple rfl T.z_tuple rfl (dr (de_of (df_b1 (c1_sorted rfl hu) rfl T.z_sorted rfl (dr (de_bin od_add (dr (de_callE c_heap_of hr rfl tk (da_cons (dXi 0) (da_cons (dv 1) (da_cons (dv 2) da_nil))) (leq_cons (leq_cons (leq_cons leq_nil))))) (dr (de_callE c_heap_of hr rfl tk (da_cons (dXi 0) (da_cons (dv 1) (da_cons (dv 2) da_nil))) (leq_cons (leq_cons (leq_cons leq_nil)))))))))))) dss_nil) dss_nil) (dss_cons (dsS [] 4 sc_heap_of.nd (de_callE c_heap_of hr rfl tk (da_cons (de_ix (dr (dv 0)) (dr (de_neg de_int)) (fun _ _ => rfl)) (da_cons (dv 1) (da_cons (dv 2) da_nil))) (leq_cons (leq_cons (leq_cons leq_nil))))) (dss_cons (ds_if (al := []) (dt_cmp (od_eq hu) (dr (dv 3)) (dr de_str) (nomark _)) (dss_cons (dsS [] 5 sc_heap_of.nd (de_callE c_kept_rows hr rfl tk (da_cons (dXi 0) (da_cons (dv 4) (da_cons (dv 2) da_nil))) (leq_cons (leq_cons (leq_cons leq_nil))))) dss_nil) (dss_cons (ds_if (al := []) (dt_cmp (od_eq hu) (dr (dv 3)) (dr de_str) (nomark _)) (dss_cons (dsS [] 5 sc_heap_of.nd (de_callE c_made_rows hr rfl tk (da_cons (dXi 0) (da_cons (dv 4) (da_cons (dv 2) da_nil))) (leq_cons (leq_cons (leq_cons leq_nil))))) dss_nil) (dss_cons (ds_if (al := []) (dt_cmp (od_eq hu) (dr (dv 3)) (dr de_str) (nomark _)) (dss_cons (dsS [] 5 sc_heap_of.nd (de_callE c_unlike_rows hr rfl tk (da_cons (dv 4) da_nil) (leq_cons leq_nil))) dss_nil) (dss_cons (ds_if (al := []) (dt_cmp (od_eq hu) (dr (dv 3)) (dr de_str) (nomark _)) (dss_cons (dsS [] 5 sc_heap_of.nd (de_callE c_capped_rows hr rfl tk (da_cons (dXi 0) (da_cons (dXi 0) (da_cons (dv 4) (da_cons (dv 2) da_nil)))) (leq_cons (leq_cons (leq_cons (leq_cons leq_nil)))))) dss_nil) (dss_cons (dsS [] 5 sc_heap_of.nd (de_callE c_matched_rows hr rfl tk (da_cons (dXi 0) (da_cons (dXi 0) (da_cons (dv 4) (da_cons (dv 2) da_nil)))) (leq_cons (leq_cons (leq_cons (leq_cons leq_nil)))))) dss_nil)) dss_nil)) dss_nil)) dss_nil)) (dss_cons (ds_ret (al := []) (de_t1 c1_tuple rfl T.z_tuple rfl (dr (de_of (df_b1 (c1_sorted rfl hu) rfl T.z_sorted rfl (dr (dv 5))))))) dss_nil))))))
abbrev N_l_good : List Str := ["_law_found", "_law_wide", "_law_row", "_law_n"]
theorem sc_l_good : FnScope N_l_good ["_law_found", "_law_wide"] (defScope s_l_good) := fsc
theorem ok_l_good (T : Txt K mg) (F : Fun K "_law_good" "_law_good" s_l_good f fd)  :
    FnOk P w K mg base (L2.CX P w) 1 f fd ["_law_found", "_law_wide"] (spD K mg 2 F_l_good) :=
  fnD (N := N_l_good) (k := 0) (fb := b_l_good) F sc_l_good fun cdv A outer s H G E hr tk hp =>
    by have hu := Room.hu hr; exact (dss_cons (ds_if (al := []) (dt_not (dt_truth (dr (de_isi is_tup rfl T.z_isinstance rfl (dr (dv 0)) rfl T.z_tuple rfl)) (fun _ => rfl))) (dss_cons (ds_ret (al := []) de_bl) dss_nil) dss_nil) (dss_cons (ds_for (al := []) hp rfl (di_seq (dv 0)) (dgN 2 sc_l_good.nd) (fun _ => (dss_cons (ds_if (al := []) (dt_w (dw_or (dt_not (dt_truth (dr (de_isi is_tup rfl T.z_isinstance rfl (dr (dv 2)) rfl T.z_tuple rfl)) (fun _ => rfl))) (dw_or1 (dt_cmp (od_ne hu) (dr (de_b1 c1_len rfl T.z_len rfl (dr (dv 2)))) (dr (dv 1)) (nomark _))))) (dss_cons (ds_ret (al := []) de_bl) dss_nil) dss_nil) (dss_cons (ds_for (al := []) hp rfl (di_seq (dv 2)) (dgN 3 sc_l_good.nd) (fun _ => (dss_cons (ds_if (al := []) (dt_w (dw_or (dt_not (dt_truth (dr (de_isi is_int rfl T.z_isinstance rfl (dr (dv 3)) rfl T.z_int rfl)) (fun _ => rfl))) (dw_or1 (dt_truth (dr (de_isi is_bool rfl T.z_isinstance rfl (dr (dv 3)) rfl T.z_bool rfl)) (fun _ => rfl))))) (dss_cons (ds_ret (al := []) de_bl) dss_nil) dss_nil) dss_nil))) dss_nil)))) (dss_cons (ds_ret (al := []) (de_cmp (od_eq hu) (dr (de_of (df_t1 c1_list rfl T.z_list rfl (dr (dv 0))))) (dr (de_of (df_b1 (c1_sorted rfl hu) rfl T.z_sorted rfl (dr (dv 0))))) (nomark _))) dss_nil)))
abbrev N_l_by_worth : List Str := ["_law_heap_here", "_law_term_here", "_law_names_here", "_law_groups", "_law_row"]
theorem sc_l_by_worth : FnScope N_l_by_worth ["_law_heap_here", "_law_term_here", "_law_names_here"] (defScope s_l_by_worth) := fsc
theorem ok_l_by_worth (T : Txt K mg) (F : Fun K "_law_by_worth" "_law_by_worth" s_l_by_worth f fd) (c_worth : CallOk P w K mg base 14 "worth" ["term", "row", "names"] F_worth) :
    FnOk P w K mg base (L2.CX P w) 15 f fd ["_law_heap_here", "_law_term_here", "_law_names_here"] (spD K mg 3 F_l_by_worth) :=
  fnD (N := N_l_by_worth) (k := 14) (fb := b_l_by_worth) F sc_l_by_worth fun cdv A outer s H G E hr tk hp =>
    by exact (dss_cons (ds_setF (al := []) (i := 3) sc_l_by_worth.nd rfl (by first | exact .inl rfl | exact .inr rfl) df_dnewK) (dss_cons (ds_grp hp rfl (di_seq (dv 0)) (dgN 4 sc_l_by_worth.nd) (by decide) (fun _ z => by cases z) (de_callE c_worth hr rfl tk (da_cons (dv 1) (da_cons (dv 4) (da_cons (dv 2) da_nil))) (leq_cons (leq_cons (leq_cons leq_nil)))) rfl (by first | exact .inl rfl | exact .inr (.inl rfl) | exact .inr (.inr rfl)) rfl (by first | exact .inl rfl | exact .inr (.inl rfl) | exact .inr (.inr rfl))) (dss_cons (ds_ret (al := [3]) (de_var (i := 3) rfl (by first | exact .inl rfl | exact .inr (.inl rfl) | exact .inr (.inr rfl)) (by decide))) dss_nil)))
abbrev N_l_group_right : List Str := ["_law_some", "_law_stayed", "_law_many", "_law_left", "_law_row"]
theorem sc_l_group_right : FnScope N_l_group_right ["_law_some", "_law_stayed", "_law_many"] (defScope s_l_group_right) := fsc
theorem ok_l_group_right (T : Txt K mg) (F : Fun K "_law_group_right" "_law_group_right" s_l_group_right f fd)  :
    FnOk P w K mg base (L2.CX P w) 1 f fd ["_law_some", "_law_stayed", "_law_many"] (spD K mg 3 F_l_group_right) :=
  fnD (N := N_l_group_right) (k := 0) (fb := b_l_group_right) F sc_l_group_right fun cdv A outer s H G E hr tk hp =>
    by have hu := Room.hu hr; exact (dss_cons (ds_if (al := []) (dt_cmp (od_ne hu) (dr (de_b1 c1_len rfl T.z_len rfl (dr (dv 1)))) (dr (de_b2 (c2_min rfl) rfl T.z_min rfl (dr (dv 2)) (dr (de_b1 c1_len rfl T.z_len rfl (dr (dv 0)))))) (nomark _)) (dss_cons (ds_ret (al := []) de_bl) dss_nil) dss_nil) (dss_cons (ds_setF (al := []) (i := 3) sc_l_group_right.nd rfl (by first | exact .inl rfl | exact .inr rfl) (df_t1 c1_list rfl T.z_list rfl (dr (dv 0)))) (dss_cons (ds_for (al := []) hp rfl (di_seq (dv 1)) (dgN 4 sc_l_group_right.nd) (fun _ => (dss_cons (ds_if (al := []) (dt_notInA hr.hu65 (dv 4) (drV 3)) (dss_cons (ds_ret (al := []) de_bl) dss_nil) dss_nil) (dss_cons (ds_mut (al := []) (i := 3) PySem.F.slot_list_remove PySem.F.type_list_remove (mut_remove hr.hu66) rfl (by first | exact .inl rfl | exact .inr (.inl rfl) | exact .inr (.inr rfl)) (da_cons (dv 4) da_nil)) dss_nil)))) (dss_cons (ds_if (al := []) (dt_w (dw_or (dt_cmp (od_eq hu) (dr (de_b1 c1_len rfl T.z_len rfl (drV 3))) (dr de_int) (nomark _)) (dw_or1 (dt_cmp (od_eq hu) (dr (de_b1 c1_len rfl T.z_len rfl (dr (dv 1)))) (dr de_int) (nomark _))))) (dss_cons (ds_ret (al := []) de_bl) dss_nil) dss_nil) (dss_cons (ds_ret (al := []) (de_cmp (od_le hu) (dr (de_b1 (c1_maxR rfl (hu)) rfl T.z_max rfl (dr (dv 1)))) (dr (de_b1 (c1_minR rfl (hu)) rfl T.z_min rfl (drV 3))) (nomark _))) dss_nil)))))
abbrev N_law : List Str := ["_law_script", "_law_width", "_law_table", "_law_names_here", "_law_cell", "_law_term_here", "_law_many", "_law_found", "_law_groups", "_law_stayed", "_law_key", "_law_some"]
theorem sc_law : FnScope N_law ["_law_script"] (defScope s_law) := fsc
theorem ok_law (T : Txt K mg) (F : Fun K "law" "law" s_law f fd) (c_l_cell_at : CallOk P w K mg base 27 "_law_cell_at" ["_law_script", "_law_k"] F_l_cell_at) (c_l_heap : CallOk P w K mg base 27 "_law_heap" ["_law_cells", "_law_width"] F_l_heap) (c_l_names : CallOk P w K mg base 27 "_law_names" ["_law_script"] F_l_names) (c_l_term : CallOk P w K mg base 27 "_law_term" ["_law_cell", "_law_k", "_law_width"] F_l_term) (c_heap_of : CallOk P w K mg base 27 "heap_of" ["view", "table", "names"] F_heap_of) (c_l_good : CallOk P w K mg base 27 "_law_good" ["_law_found", "_law_wide"] F_l_good) (c_l_by_worth : CallOk P w K mg base 27 "_law_by_worth" ["_law_heap_here", "_law_term_here", "_law_names_here"] F_l_by_worth) (c_l_group_right : CallOk P w K mg base 27 "_law_group_right" ["_law_some", "_law_stayed", "_law_many"] F_l_group_right) :
    FnOk P w K mg base (L2.CX P w) 28 f fd ["_law_script"] (spD K mg 1 F_law) :=
  fnD (N := N_law) (k := 27) (fb := b_law) F sc_law fun cdv A outer s H G E hr tk hp =>
    by have hu := Room.hu hr; exact (dss_cons (dsS [] 1 sc_law.nd (de_bin od_add (dr de_int) (dr (de_bin od_mod (dr (de_callE c_l_cell_at hr rfl tk (da_cons (dv 0) (da_cons de_int da_nil)) (leq_cons (leq_cons leq_nil)))) (dr de_int))))) (dss_cons (dsS [] 2 sc_law.nd (de_callE c_l_heap hr rfl tk (da_cons (de_cut (dr (dv 0)) do_none (do_some de_int)) (da_cons (dv 1) da_nil)) (leq_cons (leq_cons leq_nil)))) (dss_cons (dsS [] 3 sc_law.nd (de_callE c_l_names hr rfl tk (da_cons (dv 0) da_nil) (leq_cons leq_nil))) (dss_cons (dsS [] 4 sc_law.nd (de_bin od_add (dr (de_callE c_l_cell_at hr rfl tk (da_cons (dv 0) (da_cons de_int da_nil)) (leq_cons (leq_cons leq_nil)))) (dr (de_b1 (c1_sum rfl) rfl T.z_sum rfl (dr (dv 0)))))) (dss_cons (dsS [] 5 sc_law.nd (de_callE c_l_term hr rfl tk (da_cons (dv 4) (da_cons de_int (da_cons (dv 1) da_nil))) (leq_cons (leq_cons (leq_cons leq_nil))))) (dss_cons (dsS [] 6 sc_law.nd (de_bin od_add (dr de_int) (dr (de_bin od_mod (dr (dv 4)) (dr de_int))))) (dss_cons (ds_if (al := []) (dt_cmp (od_eq hu) (dr (de_bin od_mod (dr (de_bin od_div (dr (dv 4)) (dr de_int))) (dr de_int))) (dr de_int) (nomark _)) (dss_cons (dsS [] 6 sc_law.nd (de_bin od_add (dr de_int) (dr (de_bin od_mod (dr (de_bin od_div (dr (dv 4)) (dr de_int))) (dr de_int))))) dss_nil) dss_nil) (dss_cons (dsS [] 7 sc_law.nd (de_callE c_heap_of hr rfl tk (da_cons (de_tup (da_cons de_str (da_cons (dv 5) (da_cons (dv 6) (da_cons (de_tup (da_cons de_str da_nil) (len_cons len_nil) (szl (by decide))) da_nil)))) (len_cons (len_cons (len_cons (len_cons len_nil)))) (szl (by decide))) (da_cons (dv 2) (da_cons (de_of (df_t1 c1_dict rfl T.z_dict rfl (dr (dv 3)))) da_nil))) (leq_cons (leq_cons (leq_cons leq_nil))))) (dss_cons (ds_if (al := []) (dt_not (dt_truth (dr (de_callE c_l_good hr rfl tk (da_cons (dv 7) (da_cons (dv 1) da_nil)) (leq_cons (leq_cons leq_nil)))) (fun _ => rfl))) (dss_cons (ds_ret (al := []) de_bl) dss_nil) dss_nil) (dss_cons (dsS [] 8 sc_law.nd (de_callE c_l_by_worth hr rfl tk (da_cons (dv 2) (da_cons (dv 5) (da_cons (dv 3) da_nil))) (leq_cons (leq_cons (leq_cons leq_nil))))) (dss_cons (dsS [] 9 sc_law.nd (de_callE c_l_by_worth hr rfl tk (da_cons (dv 7) (da_cons (dv 5) (da_cons (dv 3) da_nil))) (leq_cons (leq_cons (leq_cons leq_nil))))) (dss_cons (ds_for (al := []) hp rfl (di_seq (de_of (df_t1 (c1_listK rfl) rfl T.z_list rfl (dr (dv 9))))) (dgN 10 sc_law.nd) (fun _ => (dss_cons (ds_if (al := []) (dt_notInA hr.hu65 (dv 10) (dr (dv 8))) (dss_cons (ds_ret (al := []) de_bl) dss_nil) dss_nil) dss_nil))) (dss_cons (ds_for (al := []) hp rfl (di_items (dv 8)) (dg_tup rfl (dgs_cons (dgN 10 sc_law.nd) (dgs_cons (dgN 11 sc_law.nd) dgs_nil)) rfl) (fun _ => (dss_cons (ds_if (al := []) (dt_not (dt_truth (dr (de_callE c_l_group_right hr rfl tk (da_cons (dv 11) (da_cons (de_get2 hr.hu1 (dr (dv 9)) (dv 10) (de_of (df_lst da_nil len_nil (szl (by decide)))) ⟨rfl, rfl, rfl, rfl⟩) (da_cons (dv 6) da_nil))) (leq_cons (leq_cons (leq_cons leq_nil))))) (fun _ => rfl))) (dss_cons (ds_ret (al := []) de_bl) dss_nil) dss_nil) dss_nil))) (dss_cons (ds_ret (al := []) de_bl) dss_nil))))))))))))))
end
end DLaw
namespace DLaw
open PySem PySem.Spec PyProof.Rows L2
open DL
theorem all_mk {P : Program} {w : World} {K : PySem.W.Frag} {h : Heap} {mg : Str → Option Value} {fa : Addr} (X : K.In h) (c : SaysX hfa hfn hfm hts w K) (G : h.Ns mainGlobals mg) (hfa : mg "law" = some (.ref fa))
    : ∃ fd : FuncData, (∀ (s : Shared) (u : Value), BindsTo s fd ⟨[u], []⟩ [("_law_script", u)]) ∧ ∀ base : Heap, K.In base → base.Ns mainGlobals mg → FnOk P w K mg base (L2.CX P w) 28 fa fd ["_law_script"] (spD K mg 1 F_law) := by
  obtain ⟨a1, fd1, F1⟩ := c.fd X G 0 (x := "_law_cell_at") (r := "_law_cell_at") (st := s_l_cell_at) rfl
  have b1 := F1.binds (ps := ["_law_script", "_law_k"]) fun _ _ _ _ _ _ us hl => match us, hl with | [_, _], _ => rfl
  obtain ⟨a2, fd2, F2⟩ := c.fd X G 1 (x := "_law_mix") (r := "_law_mix") (st := s_l_mix) rfl
  have b2 := F2.binds (ps := ["_law_cell", "_law_k"]) fun _ _ _ _ _ _ us hl => match us, hl with | [_, _], _ => rfl
  obtain ⟨a3, fd3, F3⟩ := c.fd X G 2 (x := "_law_number") (r := "_law_number") (st := s_l_number) rfl
  have b3 := F3.binds (ps := ["_law_cell", "_law_k", "_law_many"]) fun _ _ _ _ _ _ us hl => match us, hl with | [_, _, _], _ => rfl
  obtain ⟨a4, fd4, F4⟩ := c.fd X G 3 (x := "_law_heap") (r := "_law_heap") (st := s_l_heap) rfl
  have b4 := F4.binds (ps := ["_law_cells", "_law_width"]) fun _ _ _ _ _ _ us hl => match us, hl with | [_, _], _ => rfl
  obtain ⟨a5, fd5, F5⟩ := c.fd X G 4 (x := "_law_names") (r := "_law_names") (st := s_l_names) rfl
  have b5 := F5.binds (ps := ["_law_script"]) fun _ _ _ _ _ _ us hl => match us, hl with | [_], _ => rfl
  obtain ⟨a6, fd6, F6⟩ := c.fd X G 5 (x := "_law_leaf") (r := "_law_leaf") (st := s_l_leaf) rfl
  have b6 := F6.binds (ps := ["_law_cell", "_law_k", "_law_width"]) fun _ _ _ _ _ _ us hl => match us, hl with | [_, _, _], _ => rfl
  obtain ⟨a7, fd7, F7⟩ := c.fd X G 6 (x := "_law_term") (r := "_law_term") (st := s_l_term) rfl
  have b7 := F7.binds (ps := ["_law_cell", "_law_k", "_law_width"]) fun _ _ _ _ _ _ us hl => match us, hl with | [_, _, _], _ => rfl
  obtain ⟨a8, fd8, F8⟩ := c.fd X G 7 (x := "field_at") (r := "field_at") (st := s_field_at) rfl
  have b8 := F8.binds (ps := ["row", "k"]) fun _ _ _ _ _ _ us hl => match us, hl with | [_, _], _ => rfl
  obtain ⟨a9, fd9, F9⟩ := c.fd X G 8 (x := "held") (r := "held") (st := s_held) rfl
  have b9 := F9.binds (ps := ["n"]) fun _ _ _ _ _ _ us hl => match us, hl with | [_], _ => rfl
  obtain ⟨a10, fd10, F10⟩ := c.fd X G 9 (x := "worked") (r := "worked") (st := s_worked) rfl
  have b10 := F10.binds (ps := ["op", "x", "y"]) fun _ _ _ _ _ _ us hl => match us, hl with | [_, _, _], _ => rfl
  obtain ⟨a11, fd11, F11⟩ := c.fd X G 10 (x := "marked") (r := "marked") (st := s_marked) rfl
  have b11 := F11.binds (ps := ["op", "x", "y"]) fun _ _ _ _ _ _ us hl => match us, hl with | [_, _, _], _ => rfl
  obtain ⟨a12, fd12, F12⟩ := c.fd X G 11 (x := "reckoned") (r := "reckoned") (st := s_reckoned) rfl
  have b12 := F12.binds (ps := ["op", "parts"]) fun _ _ _ _ _ _ us hl => match us, hl with | [_, _], _ => rfl
  obtain ⟨a13, fd13, F13⟩ := c.fd X G 12 (x := "worth") (r := "worth") (st := s_worth) rfl
  have b13 := F13.binds (ps := ["term", "row", "names"]) fun _ _ _ _ _ _ us hl => match us, hl with | [_, _, _], _ => rfl
  obtain ⟨a14, fd14, F14⟩ := c.fd X G 13 (x := "kept_rows") (r := "kept_rows") (st := s_kept_rows) rfl
  have b14 := F14.binds (ps := ["term", "heap", "names"]) fun _ _ _ _ _ _ us hl => match us, hl with | [_, _, _], _ => rfl
  obtain ⟨a15, fd15, F15⟩ := c.fd X G 14 (x := "made_rows") (r := "made_rows") (st := s_made_rows) rfl
  have b15 := F15.binds (ps := ["lists", "heap", "names"]) fun _ _ _ _ _ _ us hl => match us, hl with | [_, _, _], _ => rfl
  obtain ⟨a16, fd16, F16⟩ := c.fd X G 15 (x := "unlike_rows") (r := "unlike_rows") (st := s_unlike_rows) rfl
  have b16 := F16.binds (ps := ["heap"]) fun _ _ _ _ _ _ us hl => match us, hl with | [_], _ => rfl
  obtain ⟨a17, fd17, F17⟩ := c.fd X G 16 (x := "capped_rows") (r := "capped_rows") (st := s_capped_rows) rfl
  have b17 := F17.binds (ps := ["term", "many", "heap", "names"]) fun _ _ _ _ _ _ us hl => match us, hl with | [_, _, _, _], _ => rfl
  obtain ⟨a18, fd18, F18⟩ := c.fd X G 17 (x := "matched_rows") (r := "matched_rows") (st := s_matched_rows) rfl
  have b18 := F18.binds (ps := ["pairs", "term", "heap", "names"]) fun _ _ _ _ _ _ us hl => match us, hl with | [_, _, _, _], _ => rfl
  obtain ⟨a19, fd19, F19⟩ := c.fd X G 18 (x := "heap_of") (r := "heap_of") (st := s_heap_of) rfl
  have b19 := F19.binds (ps := ["view", "table", "names"]) fun _ _ _ _ _ _ us hl => match us, hl with | [_, _, _], _ => rfl
  obtain ⟨a20, fd20, F20⟩ := c.fd X G 19 (x := "_law_good") (r := "_law_good") (st := s_l_good) rfl
  have b20 := F20.binds (ps := ["_law_found", "_law_wide"]) fun _ _ _ _ _ _ us hl => match us, hl with | [_, _], _ => rfl
  obtain ⟨a21, fd21, F21⟩ := c.fd X G 20 (x := "_law_by_worth") (r := "_law_by_worth") (st := s_l_by_worth) rfl
  have b21 := F21.binds (ps := ["_law_heap_here", "_law_term_here", "_law_names_here"]) fun _ _ _ _ _ _ us hl => match us, hl with | [_, _, _], _ => rfl
  obtain ⟨a22, fd22, F22⟩ := c.fd X G 21 (x := "_law_group_right") (r := "_law_group_right") (st := s_l_group_right) rfl
  have b22 := F22.binds (ps := ["_law_some", "_law_stayed", "_law_many"]) fun _ _ _ _ _ _ us hl => match us, hl with | [_, _, _], _ => rfl
  obtain ⟨a23, fd23, F23⟩ := c.fd X G 22 (x := "law") (r := "law") (st := s_law) rfl
  have b23 := F23.binds (ps := ["_law_script"]) fun _ _ _ _ _ _ us hl => match us, hl with | [_], _ => rfl
  have T : Txt K mg := ⟨c.free X G 0 rfl, c.free X G 1 rfl, c.free X G 2 rfl, c.free X G 3 rfl, c.free X G 4 rfl, c.free X G 5 rfl, c.free X G 6 rfl, c.free X G 7 rfl, c.free X G 8 rfl, c.free X G 9 rfl, c.free X G 10 rfl, c.free X G 11 rfl, c.con X G 12 rfl⟩
  have e := hfa.symm.trans a23
  cases e
  refine ⟨_, law_binds F23 fun _ _ _ _ _ _ s v => .of_eq rfl, fun base _ _ => ?_⟩
  have h_l_cell_at : CallOk P w K mg base 1 "_law_cell_at" ["_law_script", "_law_k"] F_l_cell_at := ⟨_, _, a1, F1.kp, b1, ok_l_cell_at T F1 ⟩
  have h_l_mix : CallOk P w K mg base 1 "_law_mix" ["_law_cell", "_law_k"] F_l_mix := ⟨_, _, a2, F2.kp, b2, ok_l_mix T F2 ⟩
  have h_l_number : CallOk P w K mg base 2 "_law_number" ["_law_cell", "_law_k", "_law_many"] F_l_number := ⟨_, _, a3, F3.kp, b3, ok_l_number T F3 (h_l_mix.up (by decide))⟩
  have h_l_heap : CallOk P w K mg base 3 "_law_heap" ["_law_cells", "_law_width"] F_l_heap := ⟨_, _, a4, F4.kp, b4, ok_l_heap T F4 (h_l_number.up (by decide))⟩
  have h_l_names : CallOk P w K mg base 3 "_law_names" ["_law_script"] F_l_names := ⟨_, _, a5, F5.kp, b5, ok_l_names T F5 (h_l_number.up (by decide))⟩
  have h_l_leaf : CallOk P w K mg base 3 "_law_leaf" ["_law_cell", "_law_k", "_law_width"] F_l_leaf := ⟨_, _, a6, F6.kp, b6, ok_l_leaf T F6 (h_l_mix.up (by decide)) (h_l_number.up (by decide))⟩
  have h_l_term : CallOk P w K mg base 4 "_law_term" ["_law_cell", "_law_k", "_law_width"] F_l_term := ⟨_, _, a7, F7.kp, b7, ok_l_term T F7 (h_l_mix.up (by decide)) (h_l_leaf.up (by decide))⟩
  have h_field_at : CallOk P w K mg base 1 "field_at" ["row", "k"] F_field_at := ⟨_, _, a8, F8.kp, b8, ok_field_at T F8 ⟩
  have h_held : CallOk P w K mg base 1 "held" ["n"] F_held := ⟨_, _, a9, F9.kp, b9, ok_held T F9 ⟩
  have h_worked : CallOk P w K mg base 1 "worked" ["op", "x", "y"] F_worked := ⟨_, _, a10, F10.kp, b10, ok_worked T F10 ⟩
  have h_marked : CallOk P w K mg base 1 "marked" ["op", "x", "y"] F_marked := ⟨_, _, a11, F11.kp, b11, ok_marked T F11 ⟩
  have h_reckoned : CallOk P w K mg base 2 "reckoned" ["op", "parts"] F_reckoned := ⟨_, _, a12, F12.kp, b12, ok_reckoned T F12 (h_held.up (by decide)) (h_worked.up (by decide)) (h_marked.up (by decide))⟩
  have r_worth : ∀ n, CallOk P w K mg base (2 + n) "worth" ["term", "row", "names"] (R_worth n) := fun n => by
    induction n with
    | zero => exact ⟨_, _, a13, F13.kp, b13, fn_bad fun _ => rfl⟩
    | succ n ih => exact ⟨_, _, a13, F13.kp, b13, ok_worth T F13 (h_field_at.up (k := 2 + n) (Nat.le_trans (by decide : 1 ≤ 2) (Nat.le_add_right 2 n))) (h_reckoned.up (k := 2 + n) (Nat.le_trans (by decide : 2 ≤ 2) (Nat.le_add_right 2 n))) ih⟩
  have h_worth : CallOk P w K mg base 14 "worth" ["term", "row", "names"] F_worth := r_worth 12
  have h_kept_rows : CallOk P w K mg base 15 "kept_rows" ["term", "heap", "names"] F_kept_rows := ⟨_, _, a14, F14.kp, b14, ok_kept_rows T F14 (h_worth.up (by decide))⟩
  have h_made_rows : CallOk P w K mg base 15 "made_rows" ["lists", "heap", "names"] F_made_rows := ⟨_, _, a15, F15.kp, b15, ok_made_rows T F15 (h_worth.up (by decide))⟩
  have h_unlike_rows : CallOk P w K mg base 1 "unlike_rows" ["heap"] F_unlike_rows := ⟨_, _, a16, F16.kp, b16, ok_unlike_rows T F16 ⟩
  have h_capped_rows : CallOk P w K mg base 15 "capped_rows" ["term", "many", "heap", "names"] F_capped_rows := ⟨_, _, a17, F17.kp, b17, ok_capped_rows T F17 (h_worth.up (by decide))⟩
  have h_matched_rows : CallOk P w K mg base 15 "matched_rows" ["pairs", "term", "heap", "names"] F_matched_rows := ⟨_, _, a18, F18.kp, b18, ok_matched_rows T F18 (h_worth.up (by decide))⟩
  have r_heap_of : ∀ n, CallOk P w K mg base (15 + n) "heap_of" ["view", "table", "names"] (R_heap_of n) := fun n => by
    induction n with
    | zero => exact ⟨_, _, a19, F19.kp, b19, fn_bad fun _ => rfl⟩
    | succ n ih => exact ⟨_, _, a19, F19.kp, b19, ok_heap_of T F19 ih (h_kept_rows.up (k := 15 + n) (Nat.le_trans (by decide : 15 ≤ 15) (Nat.le_add_right 15 n))) (h_made_rows.up (k := 15 + n) (Nat.le_trans (by decide : 15 ≤ 15) (Nat.le_add_right 15 n))) (h_unlike_rows.up (k := 15 + n) (Nat.le_trans (by decide : 1 ≤ 15) (Nat.le_add_right 15 n))) (h_capped_rows.up (k := 15 + n) (Nat.le_trans (by decide : 15 ≤ 15) (Nat.le_add_right 15 n))) (h_matched_rows.up (k := 15 + n) (Nat.le_trans (by decide : 15 ≤ 15) (Nat.le_add_right 15 n)))⟩
  have h_heap_of : CallOk P w K mg base 27 "heap_of" ["view", "table", "names"] F_heap_of := r_heap_of 12
  have h_l_good : CallOk P w K mg base 1 "_law_good" ["_law_found", "_law_wide"] F_l_good := ⟨_, _, a20, F20.kp, b20, ok_l_good T F20 ⟩
  have h_l_by_worth : CallOk P w K mg base 15 "_law_by_worth" ["_law_heap_here", "_law_term_here", "_law_names_here"] F_l_by_worth := ⟨_, _, a21, F21.kp, b21, ok_l_by_worth T F21 (h_worth.up (by decide))⟩
  have h_l_group_right : CallOk P w K mg base 1 "_law_group_right" ["_law_some", "_law_stayed", "_law_many"] F_l_group_right := ⟨_, _, a22, F22.kp, b22, ok_l_group_right T F22 ⟩
  exact ok_law T F23 (h_l_cell_at.up (by decide)) (h_l_heap.up (by decide)) (h_l_names.up (by decide)) (h_l_term.up (by decide)) (h_heap_of.up (by decide)) (h_l_good.up (by decide)) (h_l_by_worth.up (by decide)) (h_l_group_right.up (by decide))
end DLaw
open PySem PySem.W PyProof.Rows
set_option maxRecDepth 100000 in
set_option maxHeartbeats 0 in
theorem PySem.Challenge.cw_blurdesk_k19_capped_holds : PySem.Challenge.rw_blurdesk_k19_capped.Holds := by
  refine DLaw.hd_ (DL.endX (l := PySem.Challenge.rw_blurdesk_k19_capped) (k := 28) (F := DLaw.F_law) (x := "_law_script") (by rfl) DLaw.hd_dfl (by decide) ?F DLaw.law_holds)
  intro w mg fa h K KX c G hmg0
  rw [DLaw.hd_name] at hmg0
  exact DLaw.all_mk KX c G hmg0
#print axioms PySem.Challenge.cw_blurdesk_k19_capped_holds
