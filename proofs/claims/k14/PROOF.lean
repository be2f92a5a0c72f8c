import PyProof.Rows.All
import Wide.All
import OpenK.AllK
import Wide.FinOn
import HandS.Base
import HandS.Call
import HandS.List
import HandS.Comp
import HandS.Ends
import HandS.Dict
import HandS.Iter
import HandS.Text
import HandS.Exc
import HandS.ExcOwn
import HandS.Words
import HandS.WordsList
import HandS.WordsDict
import HandS.WordsExc
import HandS.Flow
import HandS.Wide
import HandS.IsInst
import HandS.Zip
import HandS.TupAny
import HandS.TupMul
import HandS.Style
import HandS.CallSlots
import HandS.Defaults
import PyProof.EqLayable
import PyProof.ReprReads
import HandS.HeadHook1
import HandS.ExcIs
import KE.KExcIs
import HandS.Lambda
import HandS.NoneIn
import KE.GoesEnum
import KE.GoesNew
import HandS.Small
import PyProof.ReprRoads
import HandS.RaiseMore
import HandS.Deep
import HandS.HeadHook3
import HandS.SetFor
import HandS.More
import KE.GoesZip
import KE.GoesMore
import HandS.ExcValue
import HandS.Strs
import HandS.SortInts
import HandS.ExcInit
import HandS.ExcField
import KE.KNestM
import KE.DataFind
import HandS.Conv
import KE.DatumOrd
import HandS.SortKw
import PyProof.StrBlock2
import HandS.Replace
import KE.SortData
import KE.KDictDisplayH
import HandS.SortOrd
import KE.KDictPairs
import KE.DataAny
import HandS.ListItems
import HandS.TupSets
import KE.KeyNested
import KE.KDictKeyed
import HandS.TupLen
import KE.KStateDown
import HandS.EndTab
import Lean
import HandS.Head0
import HandS.Head1
import HandS.Head2
import HandS.HeadEnd
import HandS.HeadHook2
import HandS.EndBits
import KE.GoesComp
import PySem.Challenge.RW_commonhouse_k14_words_reached
set_option Elab.async false
set_option linter.all false
set_option maxRecDepth 100000
set_option maxHeartbeats 2000000
set_option autoImplicit false
set_option exponentiation.threshold 2000
namespace Pu
open PySem PySem.Spec PyProof.Rows L2
/-! ### data, results, slots -/
abbrev D := PySem.PyData
structure Exn where
  name : Str
  flds : List (Str × D)
/-- an item of a deep object: data, or a list of one's own -/
inductive Im where
  | v (d : D) | l (ds : List D)
/-- a deep object: a list, a tuple, a dict of items -/
inductive Nt where
  | l (its : List Im) | u (its : List Im) | d (kvs : List (Key × Im))
def Nt.its : Nt → List Im
  | .l its => its
  | .u its => its
  | .d kvs => kvs.map (·.2)
def Im.data : Im → D
  | .v d => d
  | .l ds => .list ds
def Nt.data : Nt → Option D
  | .l its => some (.list (its.map Im.data))
  | .u its => some (.tuple (its.map Im.data))
  | .d _ => none
/-- what an owned object holds -/
inductive Ct where
  | l (ds : List D) | d (kvs : List (Key × D)) | t (kvs : List (List Key × D)) | n (t : Nt)
/-- what is handed back: data that nobody changes, or an object of one's own -/
inductive RV where
  | v (d : D) | o (c : Ct)
/-- a slot: not known, data, an owned object, an owned object of the caller's; a reference that is kept, of whose object nothing is said -/
inductive Sl where
  | unk | v (d : D) | o (c : Ct) | io (c : Ct) | pin
abbrev En := List Sl
inductive Re (α : Type) where
  | ok (a : α) (r : En) | ex (e : Exn) (r : En) | no
abbrev M (α : Type) := En → Re α
def Re.bind {α β : Type} (r : Re α) (f : α → M β) : Re β := match r with
  | .ok a r => f a r
  | .ex e r => .ex e r
  | .no => .no
def M.bind {α β : Type} (m : M α) (f : α → M β) : M β := fun r => (m r).bind f
def M.ret {α : Type} (a : α) : M α := fun r => .ok a r
def M.no {α : Type} : M α := fun _ => .no
def M.opt {α : Type} (o : Option α) : M α := fun r => match o with
  | some a => .ok a r
  | none => .no
@[simp] theorem Re.bind_ok {α β : Type} (a : α) (r : En) (f : α → M β) : (Re.ok a r).bind f = f a r := rfl
@[simp] theorem Re.bind_ex {α β : Type} (e : Exn) (r : En) (f : α → M β) : (Re.ex e r : Re α).bind f = .ex e r := rfl
@[simp] theorem Re.bind_no {α β : Type} (f : α → M β) : (Re.no : Re α).bind f = .no := rfl
@[simp] theorem M.bind_ap {α β : Type} (m : M α) (f : α → M β) (r : En) : m.bind f r = (m r).bind f := rfl
@[simp] theorem M.ret_ap {α : Type} (a : α) (r : En) : M.ret a r = .ok a r := rfl
@[simp] theorem M.no_ap {α : Type} (r : En) : (M.no : M α) r = .no := rfl
@[simp] theorem M.opt_some {α : Type} (a : α) (r : En) : M.opt (some a) r = .ok a r := rfl
@[simp] theorem M.opt_none {α : Type} (r : En) : (M.opt none : M α) r = .no := rfl
def Po {α : Type} (X : Exn → En → Prop) (r : Re α) (k : α → En → Prop) : Prop := match r with
  | .ok a r => k a r
  | .ex e r => X e r
  | .no => False
theorem Po.bind {α β : Type} {X : Exn → En → Prop} {r : Re α} {f : α → M β} {k : β → En → Prop} (h : Po X (r.bind f) k) : Po X r fun a r' => Po X (f a r') k := by
  cases r <;> exact h
theorem Po.mono {α : Type} {X X' : Exn → En → Prop} {r : Re α} {k k' : α → En → Prop} (h : Po X r k) (hX : ∀ e r, X e r → X' e r) (hk : ∀ a r, k a r → k' a r) : Po X' r k' := by
  cases r with
  | ok a r => exact hk _ _ h
  | ex e r => exact hX _ _ h
  | no => exact h
/-! ### heaps -/
/-- all stays; tables of code objects may grow -/
structure Ex (H H' : Hp) : Prop where
  at_ : ∀ a o, H a = some o → (∀ ps, o ≠ .tbl ps) → H' a = some o
  tb : ∀ a ps, H a = some (.tbl ps) → ∃ more, H' a = some (.tbl (ps ++ more))
theorem Ex.of {H H' : Hp} (h : ∀ a o, H a = some o → H' a = some o) : Ex H H' := ⟨fun a o e _ => h a o e, fun a ps e => ⟨#[], by rw [Array.append_empty]; exact h a _ e⟩⟩
theorem Ex.refl (H : Hp) : Ex H H := .of fun _ _ h => h
theorem Ex.trans {H H1 H2 : Hp} (a : Ex H H1) (b : Ex H1 H2) : Ex H H2 := ⟨fun x o h n => b.at_ x o (a.at_ x o h n) n, fun x ps h => by
  obtain ⟨m1, h1⟩ := a.tb x ps h
  obtain ⟨m2, h2⟩ := b.tb x _ h1
  exact ⟨m1 ++ m2, by rw [h2, Array.append_assoc]⟩⟩
theorem Ex.new {H : Hp} {p : Addr} {o : HO} (h : H p = none) : Ex H (upd H p o) := .of fun a u e => by
  rw [upd_ne (ne_of_none e h)]
  exact e
theorem Ex.some {H H' : Hp} {p : Addr} {o : HO} (e : Ex H H') (h : H p = some o) : ∃ o', H' p = some o' := by
  by_cases n : ∃ ps, o = .tbl ps
  · obtain ⟨ps, rfl⟩ := n
    obtain ⟨m, hm⟩ := e.tb p ps h
    exact ⟨_, hm⟩
  · exact ⟨o, e.at_ p o h fun ps z => n ⟨ps, z⟩⟩
theorem Ex.nn {H H' : Hp} {p : Addr} (e : Ex H H') (h : H' p = none) : H p = none := by
  cases h1 : H p with
  | none => rfl
  | some o =>
    obtain ⟨o', h2⟩ := e.some h1
    rw [h2] at h
    cases h
theorem Ex.mut {H H' : Hp} {p : Addr} {o : HO} (e : Ex H H') (h : H p = none) : Ex H (upd H' p o) := ⟨fun a u ha n => by
  rw [upd_ne (ne_of_none ha h)]
  exact e.at_ a u ha n, fun a ps ha => by
  rw [upd_ne (ne_of_none ha h)]
  exact e.tb a ps ha⟩
/-- the tables of code objects that are looked after -/
class TabT where
  T : PySem.W.Frag → List (Addr × Str)
theorem Ex.rd {H H' : Hp} {a : Addr} {u : HO} (e : Ex H H') (h : Rd H a u) (n : ∀ ps, u ≠ .tbl ps) : Rd H' a u := by
  rcases h with h | ⟨o, h⟩
  · exact Or.inl (e.at_ a _ h n)
  · exact Or.inr ⟨o, e.at_ a _ h fun ps z => nomatch z⟩
theorem Ex.l {K : PySem.W.Frag} {H H' : Hp} {a : Addr} {xs : List V} (e : Ex H H') (h : SqL K H a xs) : SqL K H' a xs := by
  rcases h with h | h
  · exact Or.inl (e.rd h fun ps z => nomatch z)
  · exact Or.inr h
theorem Ex.t {K : PySem.W.Frag} {H H' : Hp} {a : Addr} {xs : List V} (e : Ex H H') (h : SqT K H a xs) : SqT K H' a xs := by
  rcases h with h | h
  · exact Or.inl (e.rd h fun ps z => nomatch z)
  · exact Or.inr h
/-- an exception that was caught: its class, its dict -/
def CauO (cls : Value) (d : Option Addr) (a : Addr) : HO := .ext fun h => ∃ (oe : Obj) (vs : Array Value), h.get? a = some oe ∧ Zc cls d oe ∧ oe.data = .fields vs
theorem cau_ne {cls : Value} {d : Option Addr} {a : Addr} (ps : Array Value) : CauO cls d a ≠ .tbl ps := fun z => by
  unfold CauO at z
  cases z
/-- a tuple that is tracked -/
def SqU (H : Hp) (a : Addr) (xs : List V) : Prop := H a = some (.tup xs)
theorem SqU.s {K : PySem.W.Frag} {H : Hp} {a : Addr} {xs : List V} (h : SqU H a xs) : SqT K H a xs := .inl (.inl h)
instance {K : PySem.W.Frag} {H : Hp} {a : Addr} {xs : List V} : Coe (SqU H a xs) (SqT K H a xs) := ⟨SqU.s⟩
theorem Ex.u {H H' : Hp} {a : Addr} {xs : List V} (e : Ex H H') (h : SqU H a xs) : SqU H' a xs := e.at_ _ _ h fun ps z => nomatch z
def basicT : List String := ["int", "bool", "tuple", "list", "str", "dict"]
/-- the class nm of the program: isinstance asks its instances rightly -/
structure ExcK (K : PySem.W.Frag) (nm : Str) : Prop where
  c : ExcC K (He.ga K nm)
  t : ∀ T ∈ basicT, PySem.W.kitOne K (.ref (He.ga K nm)) (.type T) = some false
/-- a key as data -/
def kyD : Key → D
  | .inl i => .int i
  | .inr s => .str s
mutual
/-- v stands for the data d, by what is frozen -/
inductive Rp (K : PySem.W.Frag) (H : Hp) : V → D → Prop
  | non : Rp K H .non .none
  | bl (b : Bool) : Rp K H (.bl b) (.bool b)
  | int (i : Int) : Rp K H (.int i) (.int i)
  | str (x : Str) : Rp K H (.str x) (.str x)
  | lst {a : Addr} {xs : List V} {ds : List D} : SqL K H a xs → RpAll K H xs ds → Rp K H (.ref a) (.list ds)
  | tup {a : Addr} {xs : List V} {ds : List D} : SqU H a xs → RpAll K H xs ds → Rp K H (.ref a) (.tuple ds)
  | emp {a : Addr} : H a = some (.dK []) → Rp K H (.ref a) (.dict [])
  | exc0 {a : Addr} {nm : Str} : H a = some (CauO (.ref (He.ga K nm)) none a) → ExcK K nm → Rp K H (.ref a) (.dict [(.str nm, .none)])
  | excF {a dd : Addr} {nm : Str} {fs : List (Str × V)} {kv : List (D × D)} : H a = some (CauO (.ref (He.ga K nm)) (some dd) a) → H dd = some (.xd fs) → ExcK K nm → kv.map (·.1) = fs.map (fun p => PyData.str p.1) → RpAll K H (fs.map (·.2)) (kv.map (·.2)) → Rp K H (.ref a) (.dict ((.str nm, .none) :: kv))
  | dct {a : Addr} {es : List (List Key × V)} {kv : List (List Key × D)} {dd : List (D × D)} : H a = some (.dT es) → es.map (·.1) = kv.map (·.1) → RpAll K H (es.map (·.2)) (kv.map (·.2)) → kv ≠ [] → dd = kv.map (fun q => (PyData.tuple (q.1.map kyD), q.2)) → Rp K H (.ref a) (.dict dd)
  | fnv {nm : Str} : Rp K H (.ref (He.ga K nm)) (.dict [(.bool true, .str nm)])
  | dci {a : Addr} {od : Obj} {ks : List (Int × V)} {kv : List (Int × D)} {dd : List (D × D)} : H a = some (.frz od (.dK (ks.map fun p => ((Sum.inl p.1 : Key), p.2)))) → ks.map (·.1) = kv.map (·.1) → RpAll K H (ks.map (·.2)) (kv.map (·.2)) → kv ≠ [] → dd = kv.map (fun q => (PyData.int q.1, q.2)) → Rp K H (.ref a) (.dict dd)
inductive RpAll (K : PySem.W.Frag) (H : Hp) : List V → List D → Prop
  | nil : RpAll K H [] []
  | cons {v : V} {vs : List V} {d : D} {ds : List D} : Rp K H v d → RpAll K H vs ds → RpAll K H (v :: vs) (d :: ds)
end
mutual
theorem rp_dp0 {K : PySem.W.Frag} {H : Hp} : ∀ {v : V} {d : D}, Rp K H v d → d.hasDict = false → Dp K H v d
  | _, _, .non, _ => .non
  | _, _, .bl b, _ => .bl b
  | _, _, .int i, _ => .int i
  | _, _, .str x, _ => .str x
  | _, _, .lst h a, e => .lst h (rpa_dpa0 a (by simpa [PyData.hasDict] using e))
  | _, _, .tup h a, e => .tup h (rpa_dpa0 a (by simpa [PyData.hasDict] using e))
  | _, _, .emp _, e => by simp [PyData.hasDict] at e
  | _, _, .exc0 _ _, e => by simp [PyData.hasDict] at e
  | _, _, .excF _ _ _ _ _, e => by simp [PyData.hasDict] at e
  | _, _, .dci _ _ _ _ _, e => by simp [PyData.hasDict] at e
  | _, _, .fnv, e => by simp [PyData.hasDict] at e
  | _, _, .dct _ _ _ _ _, e => by simp [PyData.hasDict] at e
theorem rpa_dpa0 {K : PySem.W.Frag} {H : Hp} : ∀ {vs : List V} {ds : List D}, RpAll K H vs ds → PyData.hasDictAll ds = false → DpAll K H vs ds
  | _, _, .nil, _ => .nil
  | _, _, .cons h t, e => by
    simp only [PyData.hasDictAll, Bool.or_eq_false_iff] at e
    exact .cons (rp_dp0 h e.1) (rpa_dpa0 t e.2)
end
theorem rp_dp {K : PySem.W.Frag} {H : Hp} {v : V} {d : D} (h : Rp K H v d) (s : SeqAt.shaped d = true) : Dp K H v d := rp_dp0 h (PyData.hasDict_of_canLay d (SeqAt.canLay_of_shaped s))
mutual
theorem dp_mono {K : PySem.W.Frag} {H H' : Hp} (e : Ex H H') : ∀ {v : V} {d : D}, Rp K H v d → Rp K H' v d
  | _, _, .non => .non
  | _, _, .bl b => .bl b
  | _, _, .int i => .int i
  | _, _, .str x => .str x
  | _, _, .lst h a => .lst (e.l h) (dpa_mono e a)
  | _, _, .tup h a => .tup (e.u h) (dpa_mono e a)
  | _, _, .emp h => .emp (e.at_ _ _ h fun ps z => nomatch z)
  | _, _, .exc0 h x => .exc0 (e.at_ _ _ h cau_ne) x
  | _, _, .excF h h2 x y a => .excF (e.at_ _ _ h cau_ne) (e.at_ _ _ h2 fun ps z => nomatch z) x y (dpa_mono e a)
  | _, _, .dci h x a n w => .dci (e.at_ _ _ h fun ps z => nomatch z) x (dpa_mono e a) n w
  | _, _, .fnv => .fnv
  | _, _, .dct h x a n w => .dct (e.at_ _ _ h fun ps z => nomatch z) x (dpa_mono e a) n w
theorem dpa_mono {K : PySem.W.Frag} {H H' : Hp} (e : Ex H H') : ∀ {vs : List V} {ds : List D}, RpAll K H vs ds → RpAll K H' vs ds
  | _, _, .nil => .nil
  | _, _, .cons h t => .cons (dp_mono e h) (dpa_mono e t)
end
theorem dpa_len {K : PySem.W.Frag} {H : Hp} : ∀ {vs : List V} {ds : List D}, RpAll K H vs ds → vs.length = ds.length
  | _, _, .nil => rfl
  | _, _, .cons _ t => congrArg Nat.succ (dpa_len t)
theorem dpa_get {K : PySem.W.Frag} {H : Hp} : ∀ {vs : List V} {ds : List D} {i : Nat} {d : D}, RpAll K H vs ds → ds[i]? = some d → ∃ v, vs[i]? = some v ∧ Rp K H v d
  | _, _, _, _, .nil, e => by simp at e
  | _, _, 0, _, .cons h _, e => by
    simp at e
    subst e
    exact ⟨_, rfl, h⟩
  | _, _, i + 1, d, .cons _ t, e => by
    obtain ⟨v, h1, h2⟩ := dpa_get (i := i) (d := d) t (by simpa using e)
    exact ⟨v, by simpa using h1, h2⟩
theorem dpa_app {K : PySem.W.Frag} {H : Hp} : ∀ {vs ws : List V} {ds es : List D}, RpAll K H vs ds → RpAll K H ws es → RpAll K H (vs ++ ws) (ds ++ es)
  | _, _, _, _, .nil, h => h
  | _, _, _, _, .cons h t, q => .cons h (dpa_app t q)
theorem dpa_take {K : PySem.W.Frag} {H : Hp} : ∀ (n : Nat) {vs : List V} {ds : List D}, RpAll K H vs ds → RpAll K H (vs.take n) (ds.take n)
  | 0, _, _, _ => .nil
  | _ + 1, _, _, .nil => .nil
  | n + 1, _, _, .cons h t => .cons h (dpa_take n t)
theorem dpa_drop {K : PySem.W.Frag} {H : Hp} : ∀ (n : Nat) {vs : List V} {ds : List D}, RpAll K H vs ds → RpAll K H (vs.drop n) (ds.drop n)
  | 0, _, _, h => h
  | _ + 1, _, _, .nil => .nil
  | n + 1, _, _, .cons _ t => dpa_drop n t
theorem dpa_set {K : PySem.W.Frag} {H : Hp} {v : V} {d : D} (h : Rp K H v d) : ∀ (i : Nat) {vs : List V} {ds : List D}, RpAll K H vs ds → RpAll K H (vs.set i v) (ds.set i d)
  | _, _, _, .nil => .nil
  | 0, _, _, .cons _ t => .cons h t
  | i + 1, _, _, .cons q t => .cons q (dpa_set h i t)
theorem dpa_erase {K : PySem.W.Frag} {H : Hp} : ∀ (i : Nat) {vs : List V} {ds : List D}, RpAll K H vs ds → RpAll K H (vs.eraseIdx i) (ds.eraseIdx i)
  | _, _, _, .nil => .nil
  | 0, _, _, .cons _ t => t
  | i + 1, _, _, .cons q t => .cons q (dpa_erase i t)
theorem dpa_rep {K : PySem.W.Frag} {H : Hp} {vs : List V} {ds : List D} (h : RpAll K H vs ds) : ∀ n : Nat, RpAll K H (List.replicate n vs).flatten (List.replicate n ds).flatten
  | 0 => .nil
  | n + 1 => by
    rw [List.replicate_succ, List.replicate_succ, List.flatten_cons, List.flatten_cons]
    exact dpa_app h (dpa_rep h n)
theorem dpa_ints {K : PySem.W.Frag} {H : Hp} : ∀ (ns : List Int), RpAll K H (ns.map V.int) (ns.map PyData.int)
  | [] => .nil
  | n :: ns => .cons (.int n) (dpa_ints ns)
/-- the pairs of a dict -/
inductive KvAll (K : PySem.W.Frag) (F : Hp) {κ : Type} : List (κ × V) → List (κ × D) → Prop
  | nil : KvAll K F [] []
  | cons {k : κ} {v : V} {d : D} {ks : List (κ × V)} {kvs : List (κ × D)} : Rp K F v d → KvAll K F ks kvs → KvAll K F ((k, v) :: ks) ((k, d) :: kvs)
theorem KvAll.mono {K : PySem.W.Frag} {F F' : Hp} {κ : Type} (e : Ex F F') : ∀ {ks : List (κ × V)} {kvs : List (κ × D)}, KvAll K F ks kvs → KvAll K F' ks kvs
  | _, _, .nil => .nil
  | _, _, .cons h t => .cons (dp_mono e h) (KvAll.mono e t)
/-- the values within an object -/
def valsO : Option HO → Option (List V)
  | some (.lst vs) => some vs
  | some (.tup vs) => some vs
  | some (.dK ks) => some (ks.map (·.2))
  | _ => none
/-- b is the inner list at place i of the object at a -/
def InnAt (H : Hp) (a : Addr) (c : Ct) (i : Nat) (b : Addr) : Prop := match c with
  | .n t => ∃ vs ds, valsO (H a) = some vs ∧ vs[i]? = some (.ref b) ∧ t.its[i]? = some (.l ds)
  | _ => False
def Inn (H : Hp) (a : Addr) (c : Ct) (b : Addr) : Prop := ∃ i, InnAt H a c i b
theorem Inn.cg {H H' : Hp} {a b : Addr} {c : Ct} (h : Inn H a c b) (e : H' a = H a) : Inn H' a c b := by
  obtain ⟨i, h⟩ := h
  refine ⟨i, ?_⟩
  cases c with
  | n t =>
    obtain ⟨vs, ds, h1, h2, h3⟩ := h
    exact ⟨vs, ds, by rw [e]; exact h1, h2, h3⟩
  | _ => exact h
theorem inn_l {H : Hp} {a b : Addr} {ds : List D} : ¬ Inn H a (.l ds) b := fun ⟨_, h⟩ => h
theorem inn_d {H : Hp} {a b : Addr} {ds : List (Key × D)} : ¬ Inn H a (.d ds) b := fun ⟨_, h⟩ => h
theorem inn_t {H : Hp} {a b : Addr} {ds : List (List Key × D)} : ¬ Inn H a (.t ds) b := fun ⟨_, h⟩ => h
/-- v stands for the item -/
def ItOk (K : PySem.W.Frag) (F H : Hp) (v : V) : Im → Prop
  | .v d => Rp K F v d
  | .l ds => ∃ b vs, v = .ref b ∧ H b = some (.lst vs) ∧ RpAll K F vs ds
inductive ItAll (K : PySem.W.Frag) (F H : Hp) : List V → List Im → Prop
  | nil : ItAll K F H [] []
  | cons {v : V} {vs : List V} {i : Im} {is : List Im} : ItOk K F H v i → ItAll K F H vs is → ItAll K F H (v :: vs) (i :: is)
theorem ItAll.len {K : PySem.W.Frag} {F H : Hp} : ∀ {vs : List V} {is : List Im}, ItAll K F H vs is → vs.length = is.length
  | _, _, .nil => rfl
  | _, _, .cons _ t => congrArg Nat.succ t.len
theorem ItAll.get {K : PySem.W.Frag} {F H : Hp} : ∀ {vs : List V} {is : List Im} {j : Nat} {i : Im}, ItAll K F H vs is → is[j]? = some i → ∃ v, vs[j]? = some v ∧ ItOk K F H v i
  | _, _, _, _, .nil, e => by simp at e
  | _, _, 0, _, .cons h _, e => by
    simp at e
    subst e
    exact ⟨_, rfl, h⟩
  | _, _, j + 1, i, .cons _ t, e => by
    obtain ⟨v, h1, h2⟩ := ItAll.get (j := j) (i := i) t (by simpa using e)
    exact ⟨v, by simpa using h1, h2⟩
theorem ItAll.mono {K : PySem.W.Frag} {F F' H H' : Hp} (e : Ex F F') : ∀ {vs : List V} {is : List Im}, ItAll K F H vs is → (∀ (j : Nat) (b : Addr) (ds : List D), vs[j]? = some (.ref b) → is[j]? = some (.l ds) → H' b = H b) → ItAll K F' H' vs is
  | _, _, .nil, _ => .nil
  | _, _, @ItAll.cons _ _ _ v vs i is h t, q => by
    refine .cons ?_ (ItAll.mono e t fun j b ds h1 h2 => q (j + 1) b ds (by simpa using h1) (by simpa using h2))
    cases i with
    | v d => exact dp_mono e h
    | l ds =>
      obtain ⟨b, ws, rfl, h1, h2⟩ := h
      exact ⟨b, ws, rfl, (q 0 b ds rfl rfl).trans h1, dpa_mono e h2⟩
/-- the object at a is the deep one, its values vs -/
def NtAt (H : Hp) (a : Addr) (vs : List V) : Nt → Prop
  | .l _ => H a = some (.lst vs)
  | .u _ => H a = some (.tup vs)
  | .d kvs => ∃ ks, H a = some (.dK ks) ∧ ks.map (·.1) = kvs.map (·.1) ∧ vs = ks.map (·.2)
theorem NtAt.vals {H : Hp} {a : Addr} {vs : List V} {t : Nt} (h : NtAt H a vs t) : valsO (H a) = some vs := by
  cases t with
  | l is => have h : H a = some (.lst vs) := h; rw [h]; rfl
  | u is => have h : H a = some (.tup vs) := h; rw [h]; rfl
  | d kvs =>
    obtain ⟨ks, h1, _, rfl⟩ := h
    rw [h1]; rfl
/-- the object at a holds c -/
def CtOk (K : PySem.W.Frag) (F H : Hp) (a : Addr) : Ct → Prop
  | .l ds => ∃ vs, H a = some (.lst vs) ∧ RpAll K F vs ds
  | .d kvs => ∃ ks, H a = some (.dK ks) ∧ KvAll K F ks kvs
  | .t kvs => ∃ ks, H a = some (.dT ks) ∧ KvAll K F ks kvs
  | .n t => ∃ vs, NtAt H a vs t ∧ ItAll K F H vs t.its ∧ ∀ (i j : Nat) (b : Addr), i ≠ j → InnAt H a (.n t) i b → InnAt H a (.n t) j b → False
/-- an inner list is there -/
theorem CtOk.innl {K : PySem.W.Frag} {F H : Hp} {a : Addr} {c : Ct} (h : CtOk K F H a c) {i : Nat} {b : Addr} (n : InnAt H a c i b) : ∃ ws, H b = some (.lst ws) := by
  cases c with
  | n t =>
    obtain ⟨vs, h1, h2, h3⟩ := h
    obtain ⟨us, ds, g1, g2, g3⟩ := n
    rw [h1.vals] at g1
    cases g1
    obtain ⟨w, w1, b', ws, rfl, w2, w3⟩ := h2.get g3
    rw [g2] at w1
    cases w1
    exact ⟨ws, w2⟩
  | _ => exact n.elim
theorem CtOk.inn {K : PySem.W.Frag} {F H : Hp} {a : Addr} {c : Ct} (h : CtOk K F H a c) {b : Addr} (n : Inn H a c b) : ∃ ws, H b = some (.lst ws) := h.innl n.choose_spec
theorem CtOk.mono {K : PySem.W.Frag} {F F' H H' : Hp} {a : Addr} {c : Ct} (h : CtOk K F H a c) (e : Ex F F') (eH : H' a = H a) (eI : ∀ b, Inn H a c b → H' b = H b) : CtOk K F' H' a c := by
  cases c with
  | n t =>
    obtain ⟨vs, h1, h2, h3⟩ := h
    refine ⟨vs, ?_, h2.mono e fun j b ds g1 g2 => eI b ⟨j, vs, ds, h1.vals, g1, g2⟩, fun i j b ne g1 g2 => h3 i j b ne ?_ ?_⟩
    · cases t with
      | l is => exact eH.trans h1
      | u is => exact eH.trans h1
      | d kvs =>
        obtain ⟨ks, z1, z2, z3⟩ := h1
        exact ⟨ks, eH.trans z1, z2, z3⟩
    · obtain ⟨us, ds, x1, x2, x3⟩ := g1
      exact ⟨us, ds, by rw [← eH]; exact x1, x2, x3⟩
    · obtain ⟨us, ds, x1, x2, x3⟩ := g2
      exact ⟨us, ds, by rw [← eH]; exact x1, x2, x3⟩
  | l ds =>
    obtain ⟨vs, h1, h2⟩ := h
    exact ⟨vs, eH.trans h1, dpa_mono e h2⟩
  | d kvs =>
    obtain ⟨ks, h1, h2⟩ := h
    exact ⟨ks, eH.trans h1, KvAll.mono e h2⟩
  | t kvs =>
    obtain ⟨ks, h1, h2⟩ := h
    exact ⟨ks, eH.trans h1, KvAll.mono e h2⟩
theorem CtOk.there' {K : PySem.W.Frag} {F H : Hp} {a : Addr} {c : Ct} (h : CtOk K F H a c) : ∃ o, H a = some o ∧ ∀ ps, o ≠ .tbl ps := by
  cases c with
  | n t =>
    obtain ⟨vs, h1, h2⟩ := h
    cases t with
    | l is => exact ⟨_, h1, fun ps z => nomatch z⟩
    | u is => exact ⟨_, h1, fun ps z => nomatch z⟩
    | d kvs =>
      obtain ⟨ks, z1, _⟩ := h1
      exact ⟨_, z1, fun ps z => nomatch z⟩
  | l ds =>
    obtain ⟨vs, h1, h2⟩ := h
    exact ⟨_, h1, fun ps z => nomatch z⟩
  | d kvs =>
    obtain ⟨ks, h1, h2⟩ := h
    exact ⟨_, h1, fun ps z => nomatch z⟩
  | t kvs =>
    obtain ⟨ks, h1, h2⟩ := h
    exact ⟨_, h1, fun ps z => nomatch z⟩
theorem CtOk.there {K : PySem.W.Frag} {F H : Hp} {a : Addr} {c : Ct} (h : CtOk K F H a c) : ∃ o, H a = some o := by
  obtain ⟨o, h1, _⟩ := h.there'
  exact ⟨o, h1⟩
theorem tabs_upd {T : List (Addr × Str)} {H : Hp} {a : Addr} {o u : HO} (t : LamX.Tabs T H) (h1 : H a = some u) (n1 : ∀ ps, u ≠ .tbl ps) (n2 : ∀ c q, u ≠ LamX.CodeO c q) : LamX.Tabs T (upd H a o) := by
  intro p hp
  obtain ⟨ps, e1, e2, e3⟩ := t p hp
  refine ⟨ps, ?_, e2, fun pos cv hcv => ?_⟩
  · rw [upd_ne fun z => n1 ps (by rw [z, h1] at e1; exact Option.some.inj e1)]
    exact e1
  · obtain ⟨c, g1, g2⟩ := e3 pos cv hcv
    refine ⟨c, g1, ?_⟩
    rw [upd_ne fun z => n2 c p.2 (by rw [z, h1] at g2; rw [z]; exact Option.some.inj g2)]
    exact g2
theorem tabs_lst {T : List (Addr × Str)} {H : Hp} {a : Addr} {o : HO} {vs : List V} (t : LamX.Tabs T H) (h : H a = some (.lst vs)) : LamX.Tabs T (upd H a o) := tabs_upd t h (fun ps z => nomatch z) (fun c q z => by unfold LamX.CodeO at z; cases z)
theorem tabs_new {T : List (Addr × Str)} {H : Hp} {a : Addr} {o : HO} (t : LamX.Tabs T H) (h : H a = none) : LamX.Tabs T (upd H a o) := t.ext fun b u e => by rw [upd_ne (ne_of_none e h)]; exact e
theorem tabs_put {T : List (Addr × Str)} {K : PySem.W.Frag} {F H : Hp} {a : Addr} {c : Ct} {o : HO} (t : LamX.Tabs T H) (h : CtOk K F H a c) : LamX.Tabs T (upd H a o) := by
  have key : ∃ u, H a = some u ∧ (∀ ps, u ≠ .tbl ps) ∧ ∀ c q, u ≠ LamX.CodeO c q := by
    cases c with
    | n t =>
      obtain ⟨vs, h1, h2⟩ := h
      cases t with
      | l is => exact ⟨_, h1, (fun ps z => nomatch z), (fun c q z => by unfold LamX.CodeO at z; cases z)⟩
      | u is => exact ⟨_, h1, (fun ps z => nomatch z), (fun c q z => by unfold LamX.CodeO at z; cases z)⟩
      | d kvs =>
        obtain ⟨ks, z1, _⟩ := h1
        exact ⟨_, z1, (fun ps z => nomatch z), (fun c q z => by unfold LamX.CodeO at z; cases z)⟩
    | l ds =>
      obtain ⟨vs, h1, h2⟩ := h
      exact ⟨_, h1, ⟨(fun ps z => nomatch z), (fun c q z => by unfold LamX.CodeO at z; cases z)⟩⟩
    | d kvs =>
      obtain ⟨ks, h1, h2⟩ := h
      exact ⟨_, h1, ⟨(fun ps z => nomatch z), (fun c q z => by unfold LamX.CodeO at z; cases z)⟩⟩
    | t kvs =>
      obtain ⟨ks, h1, h2⟩ := h
      exact ⟨_, h1, ⟨(fun ps z => nomatch z), (fun c q z => by unfold LamX.CodeO at z; cases z)⟩⟩
  obtain ⟨u, h1, n1, n2⟩ := key
  intro p hp
  obtain ⟨ps, e1, e2, e3⟩ := t p hp
  refine ⟨ps, ?_, e2, fun pos cv hcv => ?_⟩
  · rw [upd_ne fun z => n1 ps (by rw [z, h1] at e1; exact Option.some.inj e1)]
    exact e1
  · obtain ⟨c, g1, g2⟩ := e3 pos cv hcv
    refine ⟨c, g1, ?_⟩
    rw [upd_ne fun z => n2 c p.2 (by rw [z, h1] at g2; rw [z]; exact Option.some.inj g2)]
    exact g2
/-- the owned object of a slot -/
def Sl.own : Sl → Option Ct
  | .o c => some c
  | .io c => some c
  | _ => none
def SlOk (K : PySem.W.Frag) (pa : Addr) (H0 F H : Hp) (v : V) : Sl → Prop
  | .unk => True
  | .v d => Rp K F v d
  | .o c => ∃ a, v = .ref a ∧ F a = none ∧ H0 a = none ∧ CtOk K F H a c
  | .io c => v = .ref pa ∧ F pa = none ∧ H0 pa = none ∧ CtOk K F H pa c
  | .pin => v = .ref pa
theorem SlOk.owned {K : PySem.W.Frag} {pa : Addr} {H0 F H : Hp} {v : V} {s : Sl} {c : Ct} (h : SlOk K pa H0 F H v s) (e : s.own = some c) : ∃ a, v = .ref a ∧ F a = none ∧ H0 a = none ∧ CtOk K F H a c := by
  cases s with
  | unk => cases e
  | pin => cases e
  | v d => cases e
  | o c' => cases e; exact h
  | io c' => cases e; exact ⟨pa, h⟩
/-- p is no slot's object, nor within one -/
def Nob (H : Hp) (st : L2.St) (r : En) (p : Addr) : Prop := ∀ (i : Nat) (s : Sl) (c : Ct) (a : Addr), r[i]? = some s → s.own = some c → st[i]? = some (some (.ref a)) → a ≠ p ∧ ¬ Inn H a c p
variable [TabT]
/-- THE STATE: what must stand as it was (H0), what was frozen at the start (F0), what is frozen by now (F), the heap, the slots -/
structure Ok (K : PySem.W.Frag) (pa : Nat → Addr) (H0 F0 F H : Hp) (st : L2.St) (r : En) : Prop where
  hH : Ex H0 H
  fF : Ex F0 F
  fH : Ex F H
  sep : ∀ a, H0 a ≠ none → F a ≠ none → F0 a ≠ none
  len : st.length = r.length
  sl : ∀ (i : Nat) (s : Sl), r[i]? = some s → s ≠ .unk → ∃ v, st[i]? = some (some v) ∧ SlOk K (pa i) H0 F H v s
  tb : LamX.Tabs (TabT.T K) H
  dis : ∀ (i j : Nat) (s q : Sl) (c c' : Ct) (a : Addr), i ≠ j → r[i]? = some s → r[j]? = some q → s.own = some c → q.own = some c' → st[i]? = some (some (.ref a)) → st[j]? = some (some (.ref a)) → False
  inn : ∀ (i : Nat) (s : Sl) (c : Ct) (a b : Addr), r[i]? = some s → s.own = some c → st[i]? = some (some (.ref a)) → Inn H a c b → F b = none ∧ H0 b = none ∧ ∀ (j : Nat) (q : Sl) (c' : Ct) (a' : Addr), r[j]? = some q → q.own = some c' → st[j]? = some (some (.ref a')) → a' ≠ b ∧ (j ≠ i → ¬ Inn H a' c' b)
section
variable {K : PySem.W.Frag} {pa : Nat → Addr} {H0 F0 F H F' H' : Hp} {st : L2.St} {r : En}
theorem ne_none {α : Type} {o : Option α} {a : α} (h : o = some a) : o ≠ none := by
  rw [h]
  exact fun z => nomatch z
theorem none_of_not {α : Type} {o : Option α} (h : ¬ o ≠ none) : o = none := by
  cases o with
  | none => rfl
  | some a => exact absurd (ne_none rfl) h
/-- new objects only, some of them frozen -/
theorem Ok.grow (k : Ok K pa H0 F0 F H st r) (eH : Ex H H') (eF : Ex F F') (fh : Ex F' H') (new : ∀ a, F' a ≠ none → H a ≠ none → F a ≠ none) (tb : LamX.Tabs (TabT.T K) H') : Ok K pa H0 F0 F' H' st r where
  hH := k.hH.trans eH
  fF := k.fF.trans eF
  fH := fh
  sep := fun a h1 h2 => k.sep a h1 (new a h2 (by
    cases q : H0 a with
    | none => exact absurd q h1
    | some o =>
      obtain ⟨o', q'⟩ := k.hH.some q
      exact ne_none q'))
  len := k.len
  sl := fun i s h n => by
    obtain ⟨v, h1, h2⟩ := k.sl i s h n
    refine ⟨v, h1, ?_⟩
    have own : ∀ a c, F a = none → CtOk K F H a c → F' a = none ∧ CtOk K F' H' a c := fun a c hf hc => by
      obtain ⟨o, ho, hnt⟩ := hc.there'
      refine ⟨none_of_not fun z => new a z (ne_none ho) hf, hc.mono eF ((eH.at_ a o ho hnt).trans ho.symm) fun b hb => ?_⟩
      obtain ⟨ws, hw⟩ := hc.inn hb
      exact (eH.at_ b _ hw fun ps z => nomatch z).trans hw.symm
    cases s with
    | unk => trivial
    | pin => exact h2
    | v d => exact dp_mono eF h2
    | o c =>
      obtain ⟨a, e1, e2, e3, e4⟩ := h2
      obtain ⟨z1, z2⟩ := own a c e2 e4
      exact ⟨a, e1, z1, e3, z2⟩
    | io c =>
      obtain ⟨e1, e2, e3, e4⟩ := h2
      obtain ⟨z1, z2⟩ := own _ c e2 e4
      exact ⟨e1, z1, e3, z2⟩
  tb := tb
  dis := k.dis
  inn := fun i s c a b h1 h2 h3 h4 => by
    have own : ∀ (j : Nat) (q : Sl) (c' : Ct) (a' : Addr), r[j]? = some q → q.own = some c' → st[j]? = some (some (.ref a')) → H' a' = H a' ∧ CtOk K F H a' c' := fun j q c' a' g1 g2 g3 => by
      obtain ⟨v, w1, w2⟩ := k.sl j q g1 (by
        intro z
        subst z
        cases g2)
      obtain ⟨a2, z1, z2, z3, z4⟩ := w2.owned g2
      rw [g3] at w1
      cases w1
      cases z1
      obtain ⟨o, ho, hnt⟩ := z4.there'
      exact ⟨(eH.at_ _ o ho hnt).trans ho.symm, z4⟩
    obtain ⟨e1, ok1⟩ := own i s c a h1 h2 h3
    have h5 : Inn H a c b := h4.cg e1.symm
    obtain ⟨f1, f2, f3⟩ := k.inn i s c a b h1 h2 h3 h5
    obtain ⟨ws, hw⟩ := ok1.inn h5
    refine ⟨none_of_not fun z => new b z (ne_none hw) f1, f2, fun j q c' a' g1 g2 g3 => ?_⟩
    obtain ⟨y1, y2⟩ := f3 j q c' a' g1 g2 g3
    exact ⟨y1, fun nj n => y2 nj (n.cg (own j q c' a' g1 g2 g3).1.symm)⟩
/-- a new tracked object that nobody freezes -/
theorem Ok.lay (k : Ok K pa H0 F0 F H st r) {p : Addr} {o : HO} (n : H p = none) : Ok K pa H0 F0 F (upd H p o) st r :=
  k.grow (Ex.new n) (Ex.refl F) (k.fH.mut (k.fH.nn n)) (fun _ h _ => h) (k.tb.ext fun a u e => by rw [upd_ne (ne_of_none e n)]; exact e)
/-- a new object, frozen at once -/
theorem Ok.layF (k : Ok K pa H0 F0 F H st r) {p : Addr} {o : HO} (n : H p = none) : Ok K pa H0 F0 (upd F p o) (upd H p o) st r := by
  have nF := k.fH.nn n
  refine k.grow (Ex.new n) (Ex.new nF) ⟨fun a u e nt => ?_, fun a ps e => ?_⟩ (fun a h1 h2 => ?_) (k.tb.ext fun a u e => by rw [upd_ne (ne_of_none e n)]; exact e)
  · by_cases ha : a = p
    · subst ha
      rw [upd_same] at e ⊢
      exact e
    · rw [upd_ne ha] at e ⊢
      exact k.fH.at_ a u e nt
  · by_cases ha : a = p
    · subst ha
      rw [upd_same] at e ⊢
      exact ⟨#[], by rw [Array.append_empty]; exact e⟩
    · rw [upd_ne ha] at e ⊢
      exact k.fH.tb a ps e
  · by_cases ha : a = p
    · subst ha
      exact absurd n h2
    · rw [upd_ne ha] at h1
      exact h1
/-- a tracked object that is nobody's is frozen -/
theorem Ok.frz (k : Ok K pa H0 F0 F H st r) {p : Addr} {o : HO} (h : H p = some o) (n0 : H0 p = none) (nO : Nob H st r p) (nF : F p = none) : Ok K pa H0 F0 (upd F p o) H st r where
  hH := k.hH
  fF := k.fF.trans (Ex.new nF)
  fH := ⟨fun a u e nt => by
    by_cases ha : a = p
    · subst ha
      rw [upd_same] at e
      rw [h]
      exact e
    · rw [upd_ne ha] at e
      exact k.fH.at_ a u e nt, fun a ps e => by
    by_cases ha : a = p
    · subst ha
      rw [upd_same] at e
      rw [h]
      exact ⟨#[], by rw [Array.append_empty]; exact e⟩
    · rw [upd_ne ha] at e
      exact k.fH.tb a ps e⟩
  sep := fun a h1 h2 => by
    by_cases ha : a = p
    · subst ha
      exact absurd n0 h1
    · rw [upd_ne ha] at h2
      exact k.sep a h1 h2
  len := k.len
  sl := fun i s h1 n => by
    obtain ⟨v, h2, h3⟩ := k.sl i s h1 n
    refine ⟨v, h2, ?_⟩
    cases s with
    | unk => trivial
    | pin => exact h3
    | v d => exact dp_mono (Ex.new nF) h3
    | o c =>
      obtain ⟨a, e1, e2, e3, e4⟩ := h3
      have ne : a ≠ p := (nO i _ c a h1 rfl (by rw [h2, e1])).1
      exact ⟨a, e1, by rw [upd_ne ne]; exact e2, e3, e4.mono (Ex.new nF) rfl fun _ _ => rfl⟩
    | io c =>
      obtain ⟨e1, e2, e3, e4⟩ := h3
      have ne : pa i ≠ p := (nO i _ c _ h1 rfl (by rw [h2, e1])).1
      exact ⟨e1, by rw [upd_ne ne]; exact e2, e3, e4.mono (Ex.new nF) rfl fun _ _ => rfl⟩
  tb := k.tb
  dis := k.dis
  inn := fun i s c a b h1 h2 h3 h4 => by
    obtain ⟨f1, f2, f3⟩ := k.inn i s c a b h1 h2 h3 h4
    have ne : b ≠ p := fun z => (nO i s c a h1 h2 h3).2 (z ▸ h4)
    exact ⟨by rw [upd_ne ne]; exact f1, f2, f3⟩
/-- a new address is nobody's -/
theorem Ok.nobody (k : Ok K pa H0 F0 F H st r) {p : Addr} (n : H p = none) : Nob H st r p := fun i s c a h1 h2 h3 => by
  obtain ⟨v, e1, e2⟩ := k.sl i s h1 (by
    intro z
    subst z
    cases h2)
  obtain ⟨a', z1, _, _, z4⟩ := e2.owned h2
  rw [h3] at e1
  cases e1
  cases z1
  refine ⟨fun z => ?_, fun z => ?_⟩
  · subst z
    obtain ⟨o, ho⟩ := z4.there
    rw [n] at ho
    cases ho
  · obtain ⟨ws, hw⟩ := z4.inn z
    rw [n] at hw
    cases hw
/-- another frame to be kept -/
theorem Ok.frame (k : Ok K pa H0 F0 F H st r) {H0' : Hp} (h1 : Ex H0' H) (h2 : ∀ a, H0' a ≠ none → F a ≠ none → F0 a ≠ none) (h3 : ∀ (i : Nat) (s : Sl) (c : Ct) (a : Addr), r[i]? = some s → s.own = some c → st[i]? = some (some (.ref a)) → H0' a = none ∧ ∀ b, Inn H a c b → H0' b = none) : Ok K pa H0' F0 F H st r where
  hH := h1
  fF := k.fF
  fH := k.fH
  sep := h2
  len := k.len
  sl := fun i s e n => by
    obtain ⟨v, e1, e2⟩ := k.sl i s e n
    refine ⟨v, e1, ?_⟩
    cases s with
    | unk => trivial
    | pin => exact e2
    | v d => exact e2
    | o c =>
      obtain ⟨a, z1, z2, z3, z4⟩ := e2
      exact ⟨a, z1, z2, (h3 i _ c a e rfl (by rw [e1, z1])).1, z4⟩
    | io c =>
      obtain ⟨z1, z2, z3, z4⟩ := e2
      exact ⟨z1, z2, (h3 i _ c (pa i) e rfl (by rw [e1, z1])).1, z4⟩
  tb := k.tb
  dis := k.dis
  inn := fun i s c a b g1 g2 g3 g4 => by
    obtain ⟨f1, f2, f3⟩ := k.inn i s c a b g1 g2 g3 g4
    exact ⟨f1, (h3 i s c a g1 g2 g3).2 b g4, f3⟩
end
end Pu
namespace Pu
open PySem PySem.Spec PyProof.Rows L2
variable [TabT]
/-! ### slots changed -/
def Sl.isIo : Sl → Bool
  | .io _ => true
  | .pin => true
  | _ => false
def Sl.put (c : Ct) : Sl → Sl
  | .io _ => .io c
  | _ => .o c
section
variable {K : PySem.W.Frag} {pa : Nat → Addr} {H0 F0 F H F' H' : Hp} {st : L2.St} {r : En}
theorem Ok.lookup (k : Ok K pa H0 F0 F H st r) {i : Nat} {s : Sl} (h : r[i]? = some s) (n : s ≠ .unk) : ∃ v, st[i]? = some (some v) ∧ SlOk K (pa i) H0 F H v s := k.sl i s h n
theorem Ok.val (k : Ok K pa H0 F0 F H st r) {i : Nat} {d : D} (h : r[i]? = some (.v d)) : ∃ v, st[i]? = some (some v) ∧ Rp K F v d := k.sl i _ h (fun z => nomatch z)
theorem Ok.ownd (k : Ok K pa H0 F0 F H st r) {i : Nat} {s : Sl} {c : Ct} (h : r[i]? = some s) (hc : s.own = some c) : ∃ a, st[i]? = some (some (.ref a)) ∧ F a = none ∧ H0 a = none ∧ CtOk K F H a c := by
  obtain ⟨v, e1, e2⟩ := k.sl i s h (by
    intro z
    subst z
    cases hc)
  obtain ⟨a, rfl, z⟩ := e2.owned hc
  exact ⟨a, e1, z⟩
/-- the object at a, with what is within it, is no slot's -/
def Away (H0 F H : Hp) (st : L2.St) (r : En) (a : Addr) (c : Ct) : Prop := Nob H st r a ∧ ∀ b, Inn H a c b → F b = none ∧ H0 b = none ∧ a ≠ b ∧ Nob H st r b
omit [TabT] in
theorem Away.l {a : Addr} {ds : List D} (h : Nob H st r a) : Away H0 F H st r a (.l ds) := ⟨h, fun _ z => (inn_l z).elim⟩
omit [TabT] in
theorem Away.d {a : Addr} {ds : List (Key × D)} (h : Nob H st r a) : Away H0 F H st r a (.d ds) := ⟨h, fun _ z => (inn_d z).elim⟩
omit [TabT] in
theorem Away.t {a : Addr} {ds : List (List Key × D)} (h : Nob H st r a) : Away H0 F H st r a (.t ds) := ⟨h, fun _ z => (inn_t z).elim⟩
omit [TabT] in
theorem Nob.cg {a : Addr} (h : Nob H st r a) (e : ∀ (i : Nat) (s : Sl) (c : Ct) (b : Addr), r[i]? = some s → s.own = some c → st[i]? = some (some (.ref b)) → H' b = H b) : Nob H' st r a := fun i s c b h1 h2 h3 => by
  obtain ⟨g1, g2⟩ := h i s c b h1 h2 h3
  exact ⟨g1, fun n => g2 (n.cg (e i s c b h1 h2 h3).symm)⟩
omit [TabT] in
theorem Nob.upd {a : Addr} {o : HO} (h : Nob H st r a) : Nob (upd H a o) st r a := h.cg fun i s c b h1 h2 h3 => upd_ne (h i s c b h1 h2 h3).1
omit [TabT] in
/-- fewer slots -/
theorem Nob.unk {a : Addr} (h : Nob H st r a) {i : Nat} {x : Option V} : Nob H (st.set i x) (r.set i .unk) a := fun j s c b hj hc hst => by
  by_cases e : i = j
  · subst e
    rw [List.getElem?_set_self'] at hj
    cases hr : r[i]? with
    | none =>
      rw [hr] at hj
      cases hj
    | some z =>
      rw [hr] at hj
      cases hj
      cases hc
  · rw [List.getElem?_set_ne e] at hj hst
    exact h j s c b hj hc hst
/-- a slot is stored -/
theorem Ok.set (k : Ok K pa H0 F0 F H st r) {i : Nat} {v : V} {s : Sl} (hi : ∀ q, r[i]? = some q → q.isIo = false) (hs : s.isIo = false) (ok : SlOk K (pa i) H0 F H v s)
    (hd : ∀ (a : Addr) (c : Ct), s.own = some c → v = .ref a → Away H0 F H (st.set i none) (r.set i .unk) a c) : Ok K pa H0 F0 F H (st.set i (some v)) (r.set i s) where
  hH := k.hH
  fF := k.fF
  fH := k.fH
  sep := k.sep
  len := by rw [List.length_set, List.length_set, k.len]
  sl := fun j q h n => by
    by_cases e : i = j
    · subst e
      rw [List.getElem?_set_self'] at h
      by_cases hl : i < r.length
      · rw [List.getElem?_eq_getElem hl] at h
        cases h
        refine ⟨v, ?_, ok⟩
        rw [List.getElem?_set_self (by rw [k.len]; exact hl)]
      · rw [List.getElem?_eq_none (by omega)] at h
        cases h
    · rw [List.getElem?_set_ne e] at h
      obtain ⟨w, z1, z2⟩ := k.sl j q h n
      exact ⟨w, by rw [List.getElem?_set_ne e]; exact z1, z2⟩
  tb := k.tb
  dis := fun j1 j2 q1 q2 c1 c2 a ne h1 h2 o1 o2 s1 s2 => by
    by_cases e1 : i = j1
    · subst e1
      have e2 : i ≠ j2 := ne
      rw [List.getElem?_set_ne e2] at h2 s2
      rw [List.getElem?_set_self'] at h1 s1
      by_cases hl : i < r.length
      · rw [List.getElem?_eq_getElem hl] at h1
        rw [List.getElem?_eq_getElem (by rw [k.len]; exact hl)] at s1
        cases h1
        cases s1
        exact ((hd a c1 o1 rfl).1 j2 q2 c2 a (by rw [List.getElem?_set_ne e2]; exact h2) o2 (by rw [List.getElem?_set_ne e2]; exact s2)).1 rfl
      · rw [List.getElem?_eq_none (by omega)] at h1
        cases h1
    · rw [List.getElem?_set_ne e1] at h1 s1
      by_cases e2 : i = j2
      · subst e2
        rw [List.getElem?_set_self'] at h2 s2
        by_cases hl : i < r.length
        · rw [List.getElem?_eq_getElem hl] at h2
          rw [List.getElem?_eq_getElem (by rw [k.len]; exact hl)] at s2
          cases h2
          cases s2
          exact ((hd a c2 o2 rfl).1 j1 q1 c1 a (by rw [List.getElem?_set_ne e1]; exact h1) o1 (by rw [List.getElem?_set_ne e1]; exact s1)).1 rfl
        · rw [List.getElem?_eq_none (by omega)] at h2
          cases h2
      · rw [List.getElem?_set_ne e2] at h2 s2
        exact k.dis j1 j2 q1 q2 c1 c2 a ne h1 h2 o1 o2 s1 s2
  inn := by
    have old : ∀ (j : Nat) (q : Sl) (x : Option V), i ≠ j → (r.set i s)[j]? = some q → (st.set i (some v))[j]? = some x → r[j]? = some q ∧ st[j]? = some x ∧ (r.set i .unk)[j]? = some q ∧ (st.set i none)[j]? = some x := fun j q x e h1 h2 => by
      rw [List.getElem?_set_ne e] at h1 h2
      exact ⟨h1, h2, by rw [List.getElem?_set_ne e]; exact h1, by rw [List.getElem?_set_ne e]; exact h2⟩
    have new : ∀ (q : Sl) (x : Option V), (r.set i s)[i]? = some q → (st.set i (some v))[i]? = some x → q = s ∧ x = some v := fun q x h1 h2 => by
      rw [List.getElem?_set_self'] at h1 h2
      cases hr : r[i]? with
      | none =>
        rw [hr] at h1
        cases h1
      | some z =>
        cases hs : st[i]? with
        | none =>
          rw [hs] at h2
          cases h2
        | some y =>
          rw [hr] at h1
          rw [hs] at h2
          cases h1
          cases h2
          exact ⟨rfl, rfl⟩
    intro j q c a b h1 h2 h3 h4
    by_cases e : i = j
    · subst e
      obtain ⟨rfl, hx⟩ := new q _ h1 h3
      cases hx
      obtain ⟨n1, n2⟩ := hd a c h2 rfl
      obtain ⟨g1, g2, g3, g4⟩ := n2 b h4
      refine ⟨g1, g2, fun j q' c' a' w1 w2 w3 => ?_⟩
      by_cases e : i = j
      · subst e
        obtain ⟨rfl, hx⟩ := new q' _ w1 w3
        cases hx
        exact ⟨g3, fun z => absurd rfl z⟩
      · obtain ⟨y1, y2, y3, y4⟩ := old j q' _ e w1 w3
        obtain ⟨u1, u2⟩ := g4 j q' c' a' y3 w2 y4
        exact ⟨u1, fun _ => u2⟩
    · obtain ⟨x1, x2, x3, x4⟩ := old j q _ e h1 h3
      obtain ⟨g1, g2, g3⟩ := k.inn j q c a b x1 h2 x2 h4
      refine ⟨g1, g2, fun j2 q' c' a' w1 w2 w3 => ?_⟩
      by_cases e2 : i = j2
      · subst e2
        obtain ⟨rfl, hx⟩ := new q' _ w1 w3
        cases hx
        obtain ⟨n1, n2⟩ := hd a' c' w2 rfl
        refine ⟨fun z => (n1 j q c a x3 h2 x4).2 (z ▸ h4), fun _ n => ?_⟩
        exact ((n2 b n).2.2.2 j q c a x3 h2 x4).2 h4
      · obtain ⟨y1, y2, y3, y4⟩ := old j2 q' _ e2 w1 w3
        exact g3 j2 q' c' a' y1 w2 y2
theorem Ok.setV (k : Ok K pa H0 F0 F H st r) {i : Nat} {v : V} {d : D} (hi : ∀ q, r[i]? = some q → q.isIo = false) (ok : Rp K F v d) : Ok K pa H0 F0 F H (st.set i (some v)) (r.set i (.v d)) :=
  k.set (s := .v d) hi rfl ok fun _ _ z => nomatch z
/-- a slot is forgotten -/
theorem Ok.forget (k : Ok K pa H0 F0 F H st r) {i : Nat} {x : Option V} : Ok K pa H0 F0 F H (st.set i x) (r.set i .unk) where
  hH := k.hH
  fF := k.fF
  fH := k.fH
  sep := k.sep
  len := by rw [List.length_set, List.length_set, k.len]
  sl := fun j q h n => by
    by_cases e : i = j
    · subst e
      rw [List.getElem?_set_self'] at h
      by_cases hl : i < r.length
      · rw [List.getElem?_eq_getElem hl] at h
        cases h
        exact absurd rfl n
      · rw [List.getElem?_eq_none (by omega)] at h
        cases h
    · rw [List.getElem?_set_ne e] at h
      obtain ⟨w, z1, z2⟩ := k.sl j q h n
      exact ⟨w, by rw [List.getElem?_set_ne e]; exact z1, z2⟩
  tb := k.tb
  dis := fun j1 j2 q1 q2 c1 c2 a ne h1 h2 o1 o2 s1 s2 => by
    have no : ∀ (j : Nat) (q : Sl) (c : Ct), (r.set i .unk)[j]? = some q → q.own = some c → i ≠ j := fun j q c h o e => by
      subst e
      rw [List.getElem?_set_self'] at h
      by_cases hl : i < r.length
      · rw [List.getElem?_eq_getElem hl] at h
        cases h
        cases o
      · rw [List.getElem?_eq_none (by omega)] at h
        cases h
    have e1 := no j1 q1 c1 h1 o1
    have e2 := no j2 q2 c2 h2 o2
    rw [List.getElem?_set_ne e1] at h1 s1
    rw [List.getElem?_set_ne e2] at h2 s2
    exact k.dis j1 j2 q1 q2 c1 c2 a ne h1 h2 o1 o2 s1 s2
  inn := by
    have no : ∀ (j : Nat) (q : Sl) (c : Ct), (r.set i .unk)[j]? = some q → q.own = some c → i ≠ j := fun j q c h o e => by
      subst e
      rw [List.getElem?_set_self'] at h
      by_cases hl : i < r.length
      · rw [List.getElem?_eq_getElem hl] at h
        cases h
        cases o
      · rw [List.getElem?_eq_none (by omega)] at h
        cases h
    intro j q c a b h1 h2 h3 h4
    have e1 := no j q c h1 h2
    rw [List.getElem?_set_ne e1] at h1 h3
    obtain ⟨g1, g2, g3⟩ := k.inn j q c a b h1 h2 h3 h4
    refine ⟨g1, g2, fun j2 q' c' a' w1 w2 w3 => ?_⟩
    have e2 := no j2 q' c' w1 w2
    rw [List.getElem?_set_ne e2] at w1 w3
    exact g3 j2 q' c' a' w1 w2 w3
/-- an owned object is changed -/
theorem Ok.put (k : Ok K pa H0 F0 F H st r) {i : Nat} {s : Sl} {c c' : Ct} {a : Addr} {o : HO} (h : r[i]? = some s) (hc : s.own = some c) (ha : st[i]? = some (some (.ref a))) (new : CtOk K F (upd H a o) a c')
    (newI : ∀ b, Inn (upd H a o) a c' b → Inn H a c b ∨ (F b = none ∧ H0 b = none ∧ a ≠ b ∧ Nob H st r b) := by intro b hb; first | exact (inn_l hb).elim | exact (inn_d hb).elim | exact (inn_t hb).elim) : Ok K pa H0 F0 F (upd H a o) st (r.set i (s.put c')) := by
  obtain ⟨a', z1, z2, z3, z4⟩ := k.ownd h hc
  rw [ha] at z1
  cases z1
  have hl : i < r.length := (List.getElem?_eq_some_iff.mp h).1
  have po : (s.put c').own = some c' := by cases s <;> rfl
  have other : ∀ (j : Nat) (q : Sl) (c2 : Ct) (b : Addr), i ≠ j → r[j]? = some q → q.own = some c2 → st[j]? = some (some (.ref b)) → b ≠ a := fun j q c2 b e hq hq2 hb z => by
    subst z
    exact k.dis i j s q c c2 b e h hq hc hq2 ha hb
  have get : ∀ (j : Nat) (q : Sl) (c2 : Ct), (r.set i (s.put c'))[j]? = some q → q.own = some c2 → (i = j ∧ q = s.put c' ∧ c2 = c') ∨ (i ≠ j ∧ r[j]? = some q) := fun j q c2 hq ho => by
    by_cases e : i = j
    · subst e
      rw [List.getElem?_set_self hl] at hq
      cases hq
      rw [po] at ho
      cases ho
      exact .inl ⟨rfl, rfl, rfl⟩
    · rw [List.getElem?_set_ne e] at hq
      exact .inr ⟨e, hq⟩
  refine ⟨k.hH.mut z3, k.fF, k.fH.mut z2, k.sep, by rw [List.length_set, k.len], fun j q hq n => ?_, tabs_put k.tb z4, fun j1 j2 q1 q2 c1 c2 b ne h1 h2 o1 o2 s1 s2 => ?_, fun j q c2 b b2 hq ho hst hin => ?_⟩
  · by_cases e : i = j
    · subst e
      rw [List.getElem?_set_self hl] at hq
      cases hq
      obtain ⟨v, w1, w2⟩ := k.sl i s h (by
        intro z
        subst z
        cases hc)
      rw [ha] at w1
      cases w1
      refine ⟨_, ha, ?_⟩
      cases s with
      | unk => cases hc
      | pin => cases hc
      | v d => cases hc
      | o c1 => exact ⟨a, rfl, z2, z3, new⟩
      | io c1 =>
        obtain ⟨y1, y2, y3, y4⟩ := w2
        cases y1
        exact ⟨rfl, z2, z3, new⟩
    · rw [List.getElem?_set_ne e] at hq
      obtain ⟨v, w1, w2⟩ := k.sl j q hq n
      refine ⟨v, w1, ?_⟩
      cases q with
      | unk => trivial
      | pin => exact w2
      | v d => exact w2
      | o c1 =>
        obtain ⟨b, y1, y2, y3, y4⟩ := w2
        have nb : b ≠ a := other j _ c1 b e hq rfl (by rw [w1, y1])
        exact ⟨b, y1, y2, y3, y4.mono (Ex.refl F) (upd_ne nb) fun b2 hb2 => upd_ne fun z => ((k.inn j _ c1 b b2 hq rfl (by rw [w1, y1]) hb2).2.2 i s c a h hc ha).1 z.symm⟩
      | io c1 =>
        obtain ⟨y1, y2, y3, y4⟩ := w2
        have nb : pa j ≠ a := other j _ c1 (pa j) e hq rfl (by rw [w1, y1])
        exact ⟨y1, y2, y3, y4.mono (Ex.refl F) (upd_ne nb) fun b2 hb2 => upd_ne fun z => ((k.inn j _ c1 _ b2 hq rfl (by rw [w1, y1]) hb2).2.2 i s c a h hc ha).1 z.symm⟩
  · have get : ∀ (j : Nat) (q : Sl) (c2 : Ct), (r.set i (s.put c'))[j]? = some q → q.own = some c2 → ∃ q' c3, r[j]? = some q' ∧ q'.own = some c3 := fun j q c2 hq ho => by
      by_cases e : i = j
      · subst e
        exact ⟨s, c, h, hc⟩
      · rw [List.getElem?_set_ne e] at hq
        exact ⟨q, c2, hq, ho⟩
    obtain ⟨q1', c1', g1, g2⟩ := get j1 q1 c1 h1 o1
    obtain ⟨q2', c2', g3, g4⟩ := get j2 q2 c2 h2 o2
    exact k.dis j1 j2 q1' q2' c1' c2' b ne g1 g3 g2 g4 s1 s2
  · -- what is within
    have far : ∀ (j : Nat) (q : Sl) (c3 : Ct) (b3 b4 : Addr), i ≠ j → r[j]? = some q → q.own = some c3 → st[j]? = some (some (.ref b3)) → Inn (upd H a o) b3 c3 b4 → Inn H b3 c3 b4 := fun j q c3 b3 b4 e g1 g2 g3 g4 => g4.cg (upd_ne (other j q c3 b3 e g1 g2 g3)).symm
    rcases get j q c2 hq ho with ⟨rfl, rfl, rfl⟩ | ⟨e, hq'⟩
    · rw [ha] at hst
      cases hst
      rcases newI b2 hin with hi | ⟨f1, f2, f3, f4⟩
      · obtain ⟨f1, f2, f3⟩ := k.inn i s c a b2 h hc ha hi
        refine ⟨f1, f2, fun j2 q2 c3 b3 g1 g2 g3 => ?_⟩
        rcases get j2 q2 c3 g1 g2 with ⟨rfl, rfl, rfl⟩ | ⟨e, g1⟩
        · rw [ha] at g3
          cases g3
          exact ⟨(f3 i s c a h hc ha).1, fun z => absurd rfl z⟩
        · obtain ⟨y1, y2⟩ := f3 j2 q2 c3 b3 g1 g2 g3
          exact ⟨y1, fun nj n => y2 nj (far j2 q2 c3 b3 b2 e g1 g2 g3 n)⟩
      · refine ⟨f1, f2, fun j2 q2 c3 b3 g1 g2 g3 => ?_⟩
        rcases get j2 q2 c3 g1 g2 with ⟨rfl, rfl, rfl⟩ | ⟨e, g1⟩
        · rw [ha] at g3
          cases g3
          exact ⟨f3, fun z => absurd rfl z⟩
        · obtain ⟨y1, y2⟩ := f4 j2 q2 c3 b3 g1 g2 g3
          exact ⟨y1, fun _ n => y2 (far j2 q2 c3 b3 b2 e g1 g2 g3 n)⟩
    · have hin2 := far j q c2 b b2 e hq' ho hst hin
      obtain ⟨f1, f2, f3⟩ := k.inn j q c2 b b2 hq' ho hst hin2
      refine ⟨f1, f2, fun j2 q2 c3 b3 g1 g2 g3 => ?_⟩
      rcases get j2 q2 c3 g1 g2 with ⟨rfl, rfl, rfl⟩ | ⟨e2, g1⟩
      · rw [ha] at g3
        cases g3
        obtain ⟨y1, y2⟩ := f3 i s c a h hc ha
        refine ⟨y1, fun _ n => ?_⟩
        rcases newI b2 n with hi | ⟨_, _, _, f4⟩
        · exact y2 (fun z => e z) hi
        · exact (f4 j q c2 b hq' ho hst).2 hin2
      · obtain ⟨y1, y2⟩ := f3 j2 q2 c3 b3 g1 g2 g3
        exact ⟨y1, fun nj n => y2 nj (far j2 q2 c3 b3 b2 e2 g1 g2 g3 n)⟩
/-- a slot's object is no other slot's -/
theorem Ok.away (k : Ok K pa H0 F0 F H st r) {i : Nat} {s : Sl} {c : Ct} {a : Addr} (h : r[i]? = some s) (hc : s.own = some c) (ha : st[i]? = some (some (.ref a))) {x : Option V} : Away H0 F H (st.set i x) (r.set i .unk) a c := by
  have hl : i < r.length := (List.getElem?_eq_some_iff.mp h).1
  have old : ∀ (j : Nat) (q : Sl) (c2 : Ct) (b : Addr), (r.set i .unk)[j]? = some q → q.own = some c2 → (st.set i x)[j]? = some (some (.ref b)) → i ≠ j ∧ r[j]? = some q ∧ st[j]? = some (some (.ref b)) := fun j q c2 b hj hc2 hst => by
    by_cases e : i = j
    · subst e
      rw [List.getElem?_set_self hl] at hj
      cases hj
      cases hc2
    · rw [List.getElem?_set_ne e] at hj hst
      exact ⟨e, hj, hst⟩
  refine ⟨fun j q c2 b hj hc2 hst => ?_, fun b hb => ?_⟩
  · obtain ⟨e, hj, hst⟩ := old j q c2 b hj hc2 hst
    refine ⟨fun z => ?_, fun z => ((k.inn j q c2 b a hj hc2 hst z).2.2 i s c a h hc ha).1 rfl⟩
    subst z
    exact k.dis i j s q c c2 b e h hj hc hc2 ha hst
  · obtain ⟨g1, g2, g3⟩ := k.inn i s c a b h hc ha hb
    refine ⟨g1, g2, (g3 i s c a h hc ha).1, fun j q c2 b2 hj hc2 hst => ?_⟩
    obtain ⟨e, hj, hst⟩ := old j q c2 b2 hj hc2 hst
    obtain ⟨y1, y2⟩ := g3 j q c2 b2 hj hc2 hst
    exact ⟨y1, y2 fun z => e z.symm⟩
/-- an owned list is frozen -/
theorem Ok.freeze (k : Ok K pa H0 F0 F H st r) {i : Nat} {ds : List D} (h : r[i]? = some (.o (.l ds))) : ∃ F', Ok K pa H0 F0 F' H st (r.set i (.v (.list ds))) ∧ Ex F F' := by
  obtain ⟨a, z1, z2, z3, vs, z4, z5⟩ := k.ownd h rfl
  have hl : i < r.length := (List.getElem?_eq_some_iff.mp h).1
  have k2 : Ok K pa H0 F0 F H (st.set i none) (r.set i .unk) := k.forget
  have nO : Nob H (st.set i none) (r.set i .unk) a := (k.away h rfl z1).1
  have k3 := k2.frz z4 z3 nO z2
  refine ⟨upd F a (.lst vs), ?_, Ex.new z2⟩
  have k4 := k3.setV (i := i) (v := .ref a) (d := .list ds) (fun q hq => by
    rw [List.getElem?_set_self hl] at hq
    cases hq
    rfl) (.lst (.inl (.inl upd_same)) (dpa_mono (Ex.new z2) z5))
  rw [List.set_set, List.set_set] at k4
  have e : st.set i (some (.ref a)) = st := by
    apply List.ext_getElem?
    intro j
    by_cases e : i = j
    · subst e
      rw [List.getElem?_set_self (by rw [k.len]; exact hl), z1]
    · rw [List.getElem?_set_ne e]
  rw [e] at k4
  exact k4
/-- objects that are nobody's are frozen -/
theorem Ok.frzS (k : Ok K pa H0 F0 F H st r) (S : Addr → Bool) (h1 : ∀ b, S b = true → ∃ o, H b = some o) (n0 : ∀ b, S b = true → H0 b = none) (nF : ∀ b, S b = true → F b = none) (nO : ∀ b, S b = true → Nob H st r b) :
    Ok K pa H0 F0 (fun b => if S b = true then H b else F b) H st r ∧ Ex F (fun b => if S b = true then H b else F b) := by
  have ne : ∀ {b o}, F b = some o → ¬ S b = true := fun {b o} e z => by
    rw [nF b z] at e
    cases e
  have eF : Ex F (fun b => if S b = true then H b else F b) := ⟨fun b o e nt => by
    show (if S b = true then H b else F b) = _
    rw [if_neg (ne e)]
    exact e, fun b ps e => ⟨#[], by
    show (if S b = true then H b else F b) = _
    rw [if_neg (ne e), Array.append_empty]
    exact e⟩⟩
  refine ⟨⟨k.hH, k.fF.trans eF, ⟨fun b o e nt => ?_, fun b ps e => ?_⟩, fun b z1 z2 => ?_, k.len, fun i s h n => ?_, k.tb, k.dis, fun i s c a b g1 g2 g3 g4 => ?_⟩, eF⟩
  · have e : (if S b = true then H b else F b) = some o := e
    by_cases hb : S b = true
    · rw [if_pos hb] at e
      exact e
    · rw [if_neg hb] at e
      exact k.fH.at_ b o e nt
  · have e : (if S b = true then H b else F b) = some (.tbl ps) := e
    by_cases hb : S b = true
    · rw [if_pos hb] at e
      exact ⟨#[], by rw [Array.append_empty]; exact e⟩
    · rw [if_neg hb] at e
      exact k.fH.tb b ps e
  · have z2 : (if S b = true then H b else F b) ≠ none := z2
    by_cases hb : S b = true
    · exact absurd (n0 b hb) z1
    · rw [if_neg hb] at z2
      exact k.sep b z1 z2
  · obtain ⟨v, w1, w2⟩ := k.sl i s h n
    refine ⟨v, w1, ?_⟩
    have far : ∀ (c : Ct) (a : Addr), s.own = some c → v = .ref a → ¬ S a = true := fun c a g1 g2 z => by
      subst g2
      exact (nO a z i s c a h g1 w1).1 rfl
    cases s with
    | unk => trivial
    | pin => exact w2
    | v d => exact dp_mono eF w2
    | o c =>
      obtain ⟨a, e1, e2, e3, e4⟩ := w2
      exact ⟨a, e1, by
        show (if S a = true then H a else F a) = none
        rw [if_neg (far c a rfl e1)]
        exact e2, e3, e4.mono eF rfl fun _ _ => rfl⟩
    | io c =>
      obtain ⟨e1, e2, e3, e4⟩ := w2
      exact ⟨e1, by
        show (if S (pa i) = true then H (pa i) else F (pa i)) = none
        rw [if_neg (far c _ rfl e1)]
        exact e2, e3, e4.mono eF rfl fun _ _ => rfl⟩
  · obtain ⟨f1, f2, f3⟩ := k.inn i s c a b g1 g2 g3 g4
    have hb : ¬ S b = true := fun z => (nO b z i s c a g1 g2 g3).2 g4
    exact ⟨by
      show (if S b = true then H b else F b) = none
      rw [if_neg hb]
      exact f1, f2, f3⟩
theorem its_rp {K : PySem.W.Frag} {F H F' : Hp} (e : Ex F F') : ∀ {vs : List V} {is : List Im}, ItAll K F H vs is → (∀ (j : Nat) (b : Addr) (ds : List D), vs[j]? = some (.ref b) → is[j]? = some (.l ds) → F' b = H b) → RpAll K F' vs (is.map Im.data)
  | _, _, .nil, _ => .nil
  | _, _, @ItAll.cons _ _ _ v vs i is h t, q => by
    refine .cons ?_ (its_rp e t fun j b ds h1 h2 => q (j + 1) b ds (by simpa using h1) (by simpa using h2))
    cases i with
    | v d => exact dp_mono e h
    | l ds =>
      obtain ⟨b, ws, rfl, h1, h2⟩ := h
      exact .lst (.inl (.inl ((q 0 b ds rfl rfl).trans h1))) (dpa_mono e h2)
/-- a deep object as data, within a heap where it stands -/
theorem nt_rp {K : PySem.W.Frag} {F H F' : Hp} {a : Addr} {t : Nt} {d : D} (h : CtOk K F H a (.n t)) (e : Ex F F') (hd : t.data = some d) (ha : F' a = H a) (hi : ∀ b, Inn H a (.n t) b → F' b = H b) : Rp K F' (.ref a) d := by
  obtain ⟨vs, h1, h2, h3⟩ := h
  have h4 := its_rp e h2 fun j b ds g1 g2 => hi b ⟨j, vs, ds, h1.vals, g1, g2⟩
  cases t with
  | l its =>
    cases hd
    exact .lst (.inl (.inl (ha.trans h1))) h4
  | u its =>
    cases hd
    exact .tup (ha.trans h1) h4
  | d kvs => cases hd
open Classical in
/-- a deep object is frozen -/
theorem Ok.freezeN (k : Ok K pa H0 F0 F H st r) {i : Nat} {t : Nt} {d : D} (h : r[i]? = some (.o (.n t))) (hd : t.data = some d) : ∃ F', Ok K pa H0 F0 F' H st (r.set i (.v d)) ∧ Ex F F' := by
  obtain ⟨a, z1, z2, z3, z4⟩ := k.ownd h rfl
  have hl : i < r.length := (List.getElem?_eq_some_iff.mp h).1
  have aw := k.away (x := none) h rfl z1
  have k2 : Ok K pa H0 F0 F H (st.set i none) (r.set i .unk) := k.forget
  have hS : ∀ b, decide (b = a ∨ Inn H a (.n t) b) = true → b = a ∨ Inn H a (.n t) b := fun b hb => of_decide_eq_true hb
  obtain ⟨k3, eF⟩ := k2.frzS (fun b => decide (b = a ∨ Inn H a (.n t) b)) (fun b hb => by
      rcases hS b hb with rfl | hb
      · exact z4.there
      · obtain ⟨ws, hw⟩ := z4.inn hb
        exact ⟨_, hw⟩) (fun b hb => by
      rcases hS b hb with rfl | hb
      · exact z3
      · exact (aw.2 b hb).2.1) (fun b hb => by
      rcases hS b hb with rfl | hb
      · exact z2
      · exact (aw.2 b hb).1) (fun b hb => by
      rcases hS b hb with rfl | hb
      · exact aw.1
      · exact (aw.2 b hb).2.2.2)
  refine ⟨_, ?_, eF⟩
  have rp := nt_rp z4 eF hd (if_pos (decide_eq_true (.inl rfl))) fun b hb => if_pos (decide_eq_true (.inr hb))
  have k4 := k3.setV (i := i) (v := .ref a) (d := d) (fun q hq => by
    rw [List.getElem?_set_self hl] at hq
    cases hq
    rfl) rp
  rw [List.set_set, List.set_set] at k4
  have e : st.set i (some (.ref a)) = st := by
    apply List.ext_getElem?
    intro j
    by_cases e : i = j
    · subst e
      rw [List.getElem?_set_self (by rw [k.len]; exact hl), z1]
    · rw [List.getElem?_set_ne e]
  rw [e] at k4
  exact k4
end
/-! ### readings -/
structure Cc where
  K : PySem.W.Frag
  mg : Str → Option Value
  W : WX
def ExOk (c : Cc) (F H : Hp) (e : Exn) (cls : Value) (dd : Option Addr) : Prop := cls = .ref (He.ga c.K e.name) ∧
  ((e.flds = [] ∧ dd = none) ∨ ∃ d fs, dd = some d ∧ F d = some (.xd fs) ∧ fs.map (·.1) = e.flds.map (·.1) ∧ RpAll c.K F (fs.map (·.2)) (e.flds.map (·.2)))
def XW (c : Cc) (pa : Nat → Addr) (H0 F0 F : Hp) : Exn → En → Prop := fun e r' => ∀ F' H' st' cls dd, Ok c.K pa H0 F0 F' H' st' r' → Ex F F' → ExOk c F' H' e cls dd → c.W cls dd st' H'
theorem XW.mono {c : Cc} {pa : Nat → Addr} {H0 F0 F F1 : Hp} (e : Ex F F1) : ∀ x r, XW c pa H0 F0 F x r → XW c pa H0 F0 F1 x r := fun x r h F' H' st' cls dd ok ex => h F' H' st' cls dd ok (e.trans ex)
/-- a value, or a new object of one's own -/
def RvOk (K : PySem.W.Frag) (H0 F H : Hp) (st : L2.St) (r : En) (v : V) : RV → Prop
  | .v d => Rp K F v d
  | .o c => ∃ a, v = .ref a ∧ F a = none ∧ H0 a = none ∧ CtOk K F H a c ∧ Away H0 F H st r a c
def tM (c : Cc) (m : M D) : TE := fun st H Q => ∃ pa H0 F0 F r, Ok c.K pa H0 F0 F H st r ∧ Po (XW c pa H0 F0 F) (m r) fun d r' => ∀ F' H' v, Ok c.K pa H0 F0 F' H' st r' → Ex F F' → Rp c.K F' v d → Q v H'
def tO (c : Cc) (m : M RV) : TE := fun st H Q => ∃ pa H0 F0 F r, Ok c.K pa H0 F0 F H st r ∧ Po (XW c pa H0 F0 F) (m r) fun d r' => ∀ F' H' v, Ok c.K pa H0 F0 F' H' st r' → Ex F F' → RvOk c.K H0 F' H' st r' v d → Q v H'
def tT (c : Cc) (m : M Bool) : TT := fun st H Q => ∃ pa H0 F0 F r, Ok c.K pa H0 F0 F H st r ∧ Po (XW c pa H0 F0 F) (m r) fun b r' => ∀ F' H', Ok c.K pa H0 F0 F' H' st r' → Ex F F' → Q b H'
def tA (c : Cc) (m : M (List D)) : TA := fun st H Q => ∃ pa H0 F0 F r, Ok c.K pa H0 F0 F H st r ∧ Po (XW c pa H0 F0 F) (m r) fun ds r' => ∀ F' H' vs, Ok c.K pa H0 F0 F' H' st r' → Ex F F' → RpAll c.K F' vs ds → Q vs H'
inductive Fl where
  | nx | bk | ct | rt (r : RV)
def flEnd (K : PySem.W.Frag) (pa : Nat → Addr) (H0 F0 F : Hp) (Dd : Ends) (r' : En) : Fl → Prop
  | .nx => ∀ F' H' st', Ok K pa H0 F0 F' H' st' r' → Ex F F' → Dd.nx st' H'
  | .bk => ∀ F' H' st', Ok K pa H0 F0 F' H' st' r' → Ex F F' → Dd.bk st' H'
  | .ct => ∀ F' H' st', Ok K pa H0 F0 F' H' st' r' → Ex F F' → Dd.ct st' H'
  | .rt rv => ∀ F' H' st' v, Ok K pa H0 F0 F' H' st' r' → Ex F F' → RvOk K H0 F' H' st' r' v rv → Dd.rt v H'
def sM (c : Cc) (m : M Fl) : TS := fun Dd st H => ∃ pa H0 F0 F r, Ok c.K pa H0 F0 F H st r ∧ Po (XW c pa H0 F0 F) (m r) fun fl r' => flEnd c.K pa H0 F0 F Dd r' fl
theorem flEnd.mono {K : PySem.W.Frag} {pa : Nat → Addr} {H0 F0 F F1 : Hp} {Dd : Ends} {r' : En} {fl : Fl} (e : Ex F F1) (h : flEnd K pa H0 F0 F Dd r' fl) : flEnd K pa H0 F0 F1 Dd r' fl := by
  cases fl with
  | nx => exact fun F' H' st' k ex => h F' H' st' k (e.trans ex)
  | bk => exact fun F' H' st' k ex => h F' H' st' k (e.trans ex)
  | ct => exact fun F' H' st' k ex => h F' H' st' k (e.trans ex)
  | rt rv => exact fun F' H' st' v k ex => h F' H' st' v k (e.trans ex)
section
variable {X : Cx} {c : Cc}
theorem pe_cq {e : Expr} {t t' : TE} (h : PE X e t) (i : ∀ st H Q, t' st H Q → t st H Q) : PE X e t' := ⟨fun pins s st H Q I q => h.run pins s st H Q I (i st H Q q)⟩
theorem pt_cq {e : Expr} {t t' : TT} (h : PT X e t) (i : ∀ st H Q, t' st H Q → t st H Q) : PT X e t' := ⟨fun pins s st H Q I q => h.run pins s st H Q I (i st H Q q)⟩
theorem pw_cq {e : Expr} {t t' : TT} (h : PW X e t) (i : ∀ st H Q, t' st H Q → t st H Q) : PW X e t' := ⟨fun wh pins s st H Q I q => h.run wh pins s st H Q I (i st H Q q)⟩
theorem pa_cq {e : List Expr} {t t' : TA} (h : PA X e t) (i : ∀ st H Q, t' st H Q → t st H Q) : PA X e t' := ⟨fun pos pins s st H Q I q => h.run pos pins s st H Q I (i st H Q q)⟩
theorem ps_cq {e : Stmt} {t t' : TS} (h : PS X e t) (i : ∀ Dd st H, t' Dd st H → t Dd st H) : PS X e t' := ⟨fun pins s st H Dd I q => h.run pins s st H Dd I (i Dd st H q)⟩
theorem pss_cq {e : List Stmt} {t t' : TS} (h : PSs X e t) (i : ∀ Dd st H, t' Dd st H → t Dd st H) : PSs X e t' := ⟨fun pins s st H Dd I q => h.run pins s st H Dd I (i Dd st H q)⟩
/-! ### the chaining of two parts -/
theorem seqM {α : Type} {pa : Nat → Addr} {H0 F0 F H : Hp} {st : L2.St} {r : En} {ma : M D} {f : D → M α} {k : α → En → Prop} {Q : VK} (ok : Ok c.K pa H0 F0 F H st r) (po : Po (XW c pa H0 F0 F) (ma.bind f r) k)
    (h : ∀ d r1 F1 H1 v, Ok c.K pa H0 F0 F1 H1 st r1 → Ex F F1 → Rp c.K F1 v d → Po (XW c pa H0 F0 F1) (f d r1) k → Q v H1) : tM c ma st H Q :=
  ⟨pa, H0, F0, F, r, ok, (Po.bind po).mono (fun _ _ x => x) fun d r1 q F1 H1 v k1 e1 dp => h d r1 F1 H1 v k1 e1 dp (q.mono (XW.mono e1) fun _ _ x => x)⟩
theorem seqO {α : Type} {pa : Nat → Addr} {H0 F0 F H : Hp} {st : L2.St} {r : En} {ma : M RV} {f : RV → M α} {k : α → En → Prop} {Q : VK} (ok : Ok c.K pa H0 F0 F H st r) (po : Po (XW c pa H0 F0 F) (ma.bind f r) k)
    (h : ∀ d r1 F1 H1 v, Ok c.K pa H0 F0 F1 H1 st r1 → Ex F F1 → RvOk c.K H0 F1 H1 st r1 v d → Po (XW c pa H0 F0 F1) (f d r1) k → Q v H1) : tO c ma st H Q :=
  ⟨pa, H0, F0, F, r, ok, (Po.bind po).mono (fun _ _ x => x) fun d r1 q F1 H1 v k1 e1 dp => h d r1 F1 H1 v k1 e1 dp (q.mono (XW.mono e1) fun _ _ x => x)⟩
theorem seqT {α : Type} {pa : Nat → Addr} {H0 F0 F H : Hp} {st : L2.St} {r : En} {ma : M Bool} {f : Bool → M α} {k : α → En → Prop} {Q : Bool → Hp → Prop} (ok : Ok c.K pa H0 F0 F H st r) (po : Po (XW c pa H0 F0 F) (ma.bind f r) k)
    (h : ∀ d r1 F1 H1, Ok c.K pa H0 F0 F1 H1 st r1 → Ex F F1 → Po (XW c pa H0 F0 F1) (f d r1) k → Q d H1) : tT c ma st H Q :=
  ⟨pa, H0, F0, F, r, ok, (Po.bind po).mono (fun _ _ x => x) fun d r1 q F1 H1 k1 e1 => h d r1 F1 H1 k1 e1 (q.mono (XW.mono e1) fun _ _ x => x)⟩
theorem seqA {α : Type} {pa : Nat → Addr} {H0 F0 F H : Hp} {st : L2.St} {r : En} {ma : M (List D)} {f : List D → M α} {k : α → En → Prop} {Q : List V → Hp → Prop} (ok : Ok c.K pa H0 F0 F H st r) (po : Po (XW c pa H0 F0 F) (ma.bind f r) k)
    (h : ∀ d r1 F1 H1 vs, Ok c.K pa H0 F0 F1 H1 st r1 → Ex F F1 → RpAll c.K F1 vs d → Po (XW c pa H0 F0 F1) (f d r1) k → Q vs H1) : tA c ma st H Q :=
  ⟨pa, H0, F0, F, r, ok, (Po.bind po).mono (fun _ _ x => x) fun d r1 q F1 H1 v k1 e1 dp => h d r1 F1 H1 v k1 e1 dp (q.mono (XW.mono e1) fun _ _ x => x)⟩
theorem againM {pa : Nat → Addr} {H0 F0 F F1 H : Hp} {st : L2.St} {r : En} {m : M D} {Q : VK} (ok : Ok c.K pa H0 F0 F1 H st r) (e : Ex F F1) (po : Po (XW c pa H0 F0 F1) (m r) fun d r' => ∀ F' H' v, Ok c.K pa H0 F0 F' H' st r' → Ex F F' → Rp c.K F' v d → Q v H') : tM c m st H Q :=
  ⟨pa, H0, F0, F1, r, ok, po.mono (fun _ _ x => x) fun d r' q F' H' v k e' => q F' H' v k (e.trans e')⟩
theorem againT {pa : Nat → Addr} {H0 F0 F F1 H : Hp} {st : L2.St} {r : En} {m : M Bool} {Q : Bool → Hp → Prop} (ok : Ok c.K pa H0 F0 F1 H st r) (e : Ex F F1) (po : Po (XW c pa H0 F0 F1) (m r) fun d r' => ∀ F' H', Ok c.K pa H0 F0 F' H' st r' → Ex F F' → Q d H') : tT c m st H Q :=
  ⟨pa, H0, F0, F1, r, ok, po.mono (fun _ _ x => x) fun d r' q F' H' k e' => q F' H' k (e.trans e')⟩
theorem againS {pa : Nat → Addr} {H0 F0 F F1 H : Hp} {st : L2.St} {r : En} {m : M Fl} {Dd : Ends} (ok : Ok c.K pa H0 F0 F1 H st r) (e : Ex F F1) (po : Po (XW c pa H0 F0 F1) (m r) fun fl r' => flEnd c.K pa H0 F0 F Dd r' fl) : sM c m Dd st H :=
  ⟨pa, H0, F0, F1, r, ok, po.mono (fun _ _ x => x) fun d r' q => q.mono e⟩
/-! ### names and constants -/
def getS (i : Nat) : M D := fun r => match r[i]? with
  | some (.v d) => .ok d r
  | _ => .no
theorem getS_po {i : Nat} {r : En} {Xp : Exn → En → Prop} {k : D → En → Prop} (h : Po Xp (getS i r) k) : ∃ d, r[i]? = some (.v d) ∧ k d r := by
  unfold getS at h
  split at h
  · exact ⟨_, by assumption, h⟩
  · exact h.elim
theorem e_var (i : Nat) {x : Str} {pos : Pos} (hN : X.N[i]? = some x := by rfl) (hv : Vis X.env.scope x := by first | exact Or.inl rfl | exact Or.inr (Or.inl rfl) | exact Or.inr (Or.inr rfl)) (hd : (x == ("__debug__" : Str)) = false := by decide)
    (hcd : (x == ("__classdict__" : Str)) = false := by decide) : PE X (.Name x pos) (tM c (getS i)) :=
  pe_cq (pe_var (i := i) hN hv hd hcd) fun st H Q ⟨pa, H0, F0, F, r, ok, po⟩ => by
    obtain ⟨d, h1, h2⟩ := getS_po po
    obtain ⟨v, e1, e2⟩ := ok.val h1
    exact ⟨v, e1, h2 F H v ok (Ex.refl F) e2⟩
theorem e_cst {e : Expr} {v : V} {d : D} (h : PE X e (tC v)) (hr : ∀ F, Rp c.K F v d) : PE X e (tM c (M.ret d)) :=
  pe_cq h fun st H Q ⟨pa, H0, F0, F, r, ok, po⟩ => po F H v ok (Ex.refl F) (hr F)
theorem e_int {i j pos} : PE X (.Constant (.int i) j pos) (tM c (M.ret (.int i))) := e_cst pe_int fun _ => .int i
theorem e_bl {b j pos} : PE X (.Constant (.bool b) j pos) (tM c (M.ret (.bool b))) := e_cst pe_bl fun _ => .bl b
theorem e_non {j pos} : PE X (.Constant .none j pos) (tM c (M.ret .none)) := e_cst pe_non fun _ => .non
/-! ### a value from an owned one -/
def RV.data : RV → Option D
  | .v d => some d
  | .o (.l ds) => some (.list ds)
  | .o (.d _) => none
  | .o (.t _) => none
  | .o (.n t) => t.data
theorem opt_po' {α : Type} {o : Option α} {r : En} {Xp : Exn → En → Prop} {k : α → En → Prop} (h : Po Xp (M.opt o r) k) : ∃ a, o = some a ∧ k a r := by
  cases o with
  | none => exact h.elim
  | some a => exact ⟨a, rfl, h⟩
def frzM (m : M RV) : M D := m.bind fun rv => M.opt rv.data
open Classical in
theorem Ok.frzRv {K : PySem.W.Frag} {pa : Nat → Addr} {H0 F0 F H : Hp} {st : L2.St} {r : En} (k : Ok K pa H0 F0 F H st r) {a : Addr} {t : Nt} {d : D} (z : F a = none ∧ H0 a = none ∧ CtOk K F H a (.n t) ∧ Away H0 F H st r a (.n t)) (hd : t.data = some d) : ∃ F', Ok K pa H0 F0 F' H st r ∧ Ex F F' ∧ Rp K F' (.ref a) d := by
  obtain ⟨z1, z2, z4, z5⟩ := z
  have hS : ∀ b, decide (b = a ∨ Inn H a (.n t) b) = true → b = a ∨ Inn H a (.n t) b := fun b hb => of_decide_eq_true hb
  obtain ⟨k3, eF⟩ := k.frzS (fun b => decide (b = a ∨ Inn H a (.n t) b)) (fun b hb => by
      rcases hS b hb with rfl | hb
      · exact z4.there
      · obtain ⟨ws, hw⟩ := z4.inn hb
        exact ⟨_, hw⟩) (fun b hb => by
      rcases hS b hb with rfl | hb
      · exact z2
      · exact (z5.2 b hb).2.1) (fun b hb => by
      rcases hS b hb with rfl | hb
      · exact z1
      · exact (z5.2 b hb).1) (fun b hb => by
      rcases hS b hb with rfl | hb
      · exact z5.1
      · exact (z5.2 b hb).2.2.2)
  exact ⟨_, k3, eF, nt_rp z4 eF hd (if_pos (decide_eq_true (.inl rfl))) fun b hb => if_pos (decide_eq_true (.inr hb))⟩
theorem e_val {e : Expr} {m : M RV} (h : PE X e (tO c m)) : PE X e (tM c (frzM m)) :=
  pe_cq h fun st H Q ⟨pa, H0, F0, F, r, ok, po⟩ => seqO ok po fun rv r1 F1 H1 v k1 e1 dp q => by
    cases rv with
    | v d => exact q F1 H1 v k1 e1 dp
    | o ct =>
      cases ct with
      | l ds =>
        obtain ⟨a, rfl, z1, z2, ⟨vs, z3, z4⟩, z5⟩ := dp
        have k2 := k1.frz z3 z2 z5.1 z1
        exact q _ H1 _ k2 (e1.trans (Ex.new z1)) (.lst (.inl (.inl upd_same)) (dpa_mono (Ex.new z1) z4))
      | t kvs => exact q.elim
      | d kvs => exact q.elim
      | n t =>
        obtain ⟨d, hd, q⟩ := opt_po' q
        obtain ⟨a, rfl, z⟩ := dp
        obtain ⟨F2, k2, eF, rp⟩ := k1.frzRv z hd
        exact q F2 H1 _ k2 (e1.trans eF) rp
theorem o_val {e : Expr} {m : M D} (h : PE X e (tM c m)) : PE X e (tO c (m.bind fun d => M.ret (.v d))) :=
  pe_cq h fun st H Q ⟨pa, H0, F0, F, r, ok, po⟩ => seqM ok po fun d r1 F1 H1 v k1 e1 dp q => q F1 H1 v k1 e1 dp
/-! ### argument lists -/
def aNil : M (List D) := M.ret []
def aCons (m : M D) (ms : M (List D)) : M (List D) := m.bind fun d => ms.bind fun ds => M.ret (d :: ds)
theorem a_nil : PA X [] (tA c aNil) := pa_cq pa_nil fun st H Q ⟨pa, H0, F0, F, r, ok, po⟩ => po F H [] ok (Ex.refl F) .nil
theorem a_cons {e : Expr} {es : List Expr} {m : M D} {ms : M (List D)} (h : PE X e (tM c m)) (hr : PA X es (tA c ms)) (hs : starEach (e :: es) X.env = (false, eval e X.env) :: starEach es X.env := by rfl) : PA X (e :: es) (tA c (aCons m ms)) :=
  pa_cq (pa_cons h hr hs) fun st H Q ⟨pa, H0, F0, F, r, ok, po⟩ => seqM ok po fun d r1 F1 H1 v k1 e1 dp q => seqA k1 q fun ds r2 F2 H2 vs k2 e2 dps q2 => q2 F2 H2 _ k2 (e1.trans e2) (.cons (dp_mono e2 dp) dps)
/-! ### displays -/
def szC (n : Nat) {α : Type} (a : α) : Option α := if n ≤ 16777216 then some a else none
theorem szC_po {α : Type} {n : Nat} {a : α} {r : En} {Xp : Exn → En → Prop} {k : α → En → Prop} (h : Po Xp (M.opt (szC n a) r) k) : n ≤ sizeLine ∧ k a r := by
  unfold szC at h
  split at h
  · exact ⟨by rw [sizeLine_eq]; assumption, h⟩
  · exact h.elim
def eTup (ms : M (List D)) : M D := ms.bind fun ds => M.opt (szC ds.length (.tuple ds))
def oLst (ms : M (List D)) : M RV := ms.bind fun ds => M.opt (szC ds.length (.o (.l ds)))
theorem e_tup {es : List Expr} {x1 : Nat} {pos : Pos} {ms : M (List D)} (h : PA X es (tA c ms)) : PE X (.Tuple es x1 pos) (tM c (eTup ms)) :=
  pe_cq (pe_tup h) fun st H Q ⟨pa, H0, F0, F, r, ok, po⟩ => seqA ok po fun ds r1 F1 H1 vs k1 e1 dps q => by
    obtain ⟨hz, q⟩ := szC_po q
    refine ⟨by rw [dpa_len dps]; exact hz, fun p np => ?_⟩
    have nF := k1.fH.nn np
    exact q _ _ _ (k1.layF np) (e1.trans (Ex.new nF)) (.tup upd_same (dpa_mono (Ex.new nF) dps))
theorem o_lst {es : List Expr} {pos : Pos} {ms : M (List D)} (h : PA X es (tA c ms)) : PE X (.List es pos) (tO c (oLst ms)) :=
  pe_cq (pe_lst h) fun st H Q ⟨pa, H0, F0, F, r, ok, po⟩ => seqA ok po fun ds r1 F1 H1 vs k1 e1 dps q => by
    obtain ⟨hz, q⟩ := szC_po q
    refine ⟨by rw [dpa_len dps]; exact hz, fun p np => ?_⟩
    have nF := k1.fH.nn np
    exact q F1 _ _ (k1.lay np) e1 ⟨p, rfl, nF, k1.hH.nn np, ⟨vs, upd_same, dps⟩, .l (k1.nobody np).upd⟩
/-! ### operators on data: g tells the answer -/
/-- nothing new, or one new frozen object -/
def NewF (F H F' H' : Hp) : Prop := (F' = F ∧ H' = H) ∨ ∃ p o, H p = none ∧ F' = upd F p o ∧ H' = upd H p o
theorem NewF.ok {K : PySem.W.Frag} {pa : Nat → Addr} {H0 F0 F H F' H' : Hp} {st : L2.St} {r : En} (n : NewF F H F' H') (k : Ok K pa H0 F0 F H st r) : Ok K pa H0 F0 F' H' st r ∧ Ex F F' := by
  rcases n with ⟨rfl, rfl⟩ | ⟨p, o, np, rfl, rfl⟩
  · exact ⟨k, Ex.refl _⟩
  · exact ⟨k.layF np, Ex.new (k.fH.nn np)⟩
def rD2 (K : PySem.W.Frag) (g : D → D → Option D) : R2 := fun x y H Q => ∃ F d e z, Ex F H ∧ Rp K F x d ∧ Rp K F y e ∧ g d e = some z ∧ ∀ v F' H', NewF F H F' H' → Rp K F' v z → Q v H'
def rD1 (K : PySem.W.Frag) (g : D → Option D) : V → Hp → VK → Prop := fun x H Q => ∃ F d z, Ex F H ∧ Rp K F x d ∧ g d = some z ∧ ∀ v F' H', NewF F H F' H' → Rp K F' v z → Q v H'
def rDA (K : PySem.W.Frag) (g : List D → Option D) : List V → Hp → VK → Prop := fun xs H Q => ∃ F ds z, Ex F H ∧ RpAll K F xs ds ∧ g ds = some z ∧ ∀ v F' H', NewF F H F' H' → Rp K F' v z → Q v H'
def bin (g : D → D → Option D) (ma mb : M D) : M D := ma.bind fun x => mb.bind fun y => M.opt (g x y)
def una (g : D → Option D) (ma : M D) : M D := ma.bind fun x => M.opt (g x)
def nry (g : List D → Option D) (ms : M (List D)) : M D := ms.bind fun ds => M.opt (g ds)
def nryO (g : List D → Option (List D)) (ms : M (List D)) : M RV := ms.bind fun ds => M.opt ((g ds).map fun z => .o (.l z))
theorem opt_po {α : Type} {o : Option α} {r : En} {Xp : Exn → En → Prop} {k : α → En → Prop} (h : Po Xp (M.opt o r) k) : ∃ a, o = some a ∧ k a r := by
  cases o with
  | none => exact h.elim
  | some a => exact ⟨a, rfl, h⟩
theorem op_end {pa : Nat → Addr} {H0 F0 F H : Hp} {st : L2.St} {r r' : En} {d : D} {Q : VK} (k : Ok c.K pa H0 F0 F H st r) (q : ∀ F' H' v, Ok c.K pa H0 F0 F' H' st r → Ex F F' → Rp c.K F' v d → Q v H') :
    ∀ v F' H', NewF F H F' H' → Rp c.K F' v d → Q v H' := fun v F' H' n dp => by
  obtain ⟨k2, e2⟩ := n.ok k
  exact q F' H' v k2 e2 dp
theorem bin_ok {g : D → D → Option D} {ta tb : M D} {st : L2.St} {H : Hp} {Q : VK} (h : tM c (bin g ta tb) st H Q) : tOp (rD2 c.K g) (tM c ta) (tM c tb) st H Q := by
  obtain ⟨pa, H0, F0, F, r, ok, po⟩ := h
  refine seqM ok po fun d r1 F1 H1 v k1 e1 dp q => seqM k1 q fun d2 r2 F2 H2 v2 k2 e2 dp2 q2 => ?_
  obtain ⟨z, hz, q3⟩ := opt_po q2
  exact ⟨F2, d, d2, z, k2.fH, dp_mono e2 dp, dp2, hz, op_end (r' := r2) k2 fun F' H' v ok ex dp => q3 F' H' v ok ((e1.trans e2).trans ex) dp⟩
theorem e_op {op : Operator} {g : D → D → Option D} {a b : Expr} {ma mb : M D} {pos : Pos} (ho : OpR X (binaryOp op) (rD2 c.K g)) (ha : PE X a (tM c ma)) (hb : PE X b (tM c mb)) : PE X (.BinOp a op b pos) (tM c (bin g ma mb)) :=
  pe_cq (pe_op ho ha hb) fun _ _ _ h => bin_ok h
theorem e_cmp {op : CmpOp} {g : D → D → Option D} {a b : Expr} {ma mb : M D} {pos : Pos} (ho : OpR X (compareOp op) (rD2 c.K g)) (ha : PE X a (tM c ma)) (hb : PE X b (tM c mb)) (hm : behindInMarks op b = false := by first | exact nomark _ | rfl) : PE X (.Compare a [op] [b] pos) (tM c (bin g ma mb)) :=
  pe_cq (pe_cmpR ho ha hb hm) fun _ _ _ h => bin_ok h
theorem e_un {op : UnaryOp} {g : D → Option D} {a : Expr} {ma : M D} {pos : Pos} (ho : UnR X (unaryOp op) (rD1 c.K g)) (ha : PE X a (tM c ma)) : PE X (.UnaryOp op a pos) (tM c (una g ma)) :=
  pe_cq (pe_un ho ha) fun _ _ _ ⟨pa, H0, F0, F, r, ok, po⟩ => seqM ok po fun d r1 F1 H1 v k1 e1 dp q => by
    obtain ⟨z, hz, q3⟩ := opt_po q
    exact ⟨F1, d, z, k1.fH, dp, hz, op_end (r' := r1) k1 fun F' H' v ok ex dp => q3 F' H' v ok (e1.trans ex) dp⟩
theorem e_ix {g : D → D → Option D} {a b : Expr} {ma mb : M D} {pos : Pos} (ho : IxR X (rD2 c.K g)) (ha : PE X a (tM c ma)) (hb : PE X b (tM c mb)) (hs : PlainIx b := by exact fun _ _ => rfl) : PE X (.Subscript a b pos) (tM c (bin g ma mb)) :=
  pe_cq (pe_ix ho ha hb hs) fun _ _ _ h => bin_ok h
theorem e_callB {id : String} {g : List D → Option D} {x : Str} {e : Expr} {es : List Expr} {p pos : Pos} {ms : M (List D)} (hc : CallR X (.builtin id) (rDA c.K g)) (hm : X.mg x = none) (ha : PA X (e :: es) (tA c ms)) (hg : Gl X x := by rfl) (hv : bootBuiltins x = some (.builtin id) := by decide +kernel) (hn : x ≠ "__name__" := by decide) (hdb : (x == ("__debug__" : Str)) = false := by decide)
    (he : starEach (e :: es) X.env = (false, eval e X.env) :: starEach es X.env := by rfl) (hpl : (backTo pos (starEach es X.env)).any (·.1) = false := by rfl) : PE X (.Call (.Name x p) (e :: es) [] pos) (tM c (nry g ms)) :=
  pe_cq (pe_callB hc hg hm hv ha hn hdb he hpl) fun _ _ _ ⟨pa, H0, F0, F, r, ok, po⟩ => seqA ok po fun ds r1 F1 H1 vs k1 e1 dps q => by
    obtain ⟨z, hz, q3⟩ := opt_po q
    exact ⟨F1, ds, z, k1.fH, dps, hz, op_end (r' := r1) k1 fun F' H' v ok ex dp => q3 F' H' v ok (e1.trans ex) dp⟩
theorem e_callT {T : String} {g : List D → Option D} {x : Str} {e : Expr} {es : List Expr} {p pos : Pos} {ms : M (List D)} (hc : CallR X (.type T) (rDA c.K g)) (hm : X.mg x = none) (ha : PA X (e :: es) (tA c ms)) (hg : Gl X x := by rfl) (hv : bootBuiltins x = some (.type T) := by decide +kernel) (hn : x ≠ "__name__" := by decide) (hdb : (x == ("__debug__" : Str)) = false := by decide)
    (he : starEach (e :: es) X.env = (false, eval e X.env) :: starEach es X.env := by rfl) (hpl : (backTo pos (starEach es X.env)).any (·.1) = false := by rfl) : PE X (.Call (.Name x p) (e :: es) [] pos) (tM c (nry g ms)) :=
  pe_cq (pe_callTy hc hg hm hv ha hn hdb he hpl) fun _ _ _ ⟨pa, H0, F0, F, r, ok, po⟩ => seqA ok po fun ds r1 F1 H1 vs k1 e1 dps q => by
    obtain ⟨z, hz, q3⟩ := opt_po q
    exact ⟨F1, ds, z, k1.fH, dps, hz, op_end (r' := r1) k1 fun F' H' v ok ex dp => q3 F' H' v ok (e1.trans ex) dp⟩
/-! ### tests -/
def tru : D → Option Bool
  | .none => some false
  | .bool b => some b
  | .int i => some (i != 0)
  | .str x => if x.length ≤ 16777216 then some ((x.length : Int) != 0) else none
  | .list ds => some (!ds.isEmpty)
  | .tuple ds => some (!ds.isEmpty)
  | .dict _ => none
def tBool (m : M D) : M Bool := m.bind fun d => M.opt (match d with
  | .bool b => some b
  | _ => none)
def tTru (m : M D) : M Bool := m.bind fun d => M.opt (tru d)
def tNotM (m : M Bool) : M Bool := m.bind fun b => M.ret (!b)
def tAndM (m n : M Bool) : M Bool := m.bind fun b => if b = true then n else M.ret false
def tOrM (m n : M Bool) : M Bool := m.bind fun b => if b = true then M.ret true else n
theorem dpa_emp {K : PySem.W.Frag} {F : Hp} : ∀ {vs : List V} {ds : List D}, RpAll K F vs ds → (!ds.isEmpty) = !vs.isEmpty
  | _, _, .nil => rfl
  | _, _, .cons _ _ => rfl
/-- a comparison as a test -/
theorem t_cmp {op : CmpOp} {g : D → D → Option D} {a b : Expr} {ma mb : M D} {pos : Pos} (ho : OpR X (compareOp op) (rD2 c.K g)) (ha : PE X a (tM c ma)) (hb : PE X b (tM c mb)) (hm : behindInMarks op b = false := by first | exact nomark _ | rfl) : PT X (.Compare a [op] [b] pos) (tT c (tBool (bin g ma mb))) :=
  pt_cq (pt_cmpR ho ha hb hm) fun st H Q h => by
    obtain ⟨pa, H0, F0, F, r, ok, po⟩ := h
    refine bin_ok ?_
    refine seqM ok po fun d r1 F1 H1 v k1 e1 dp q => ?_
    obtain ⟨b, hb, q⟩ := opt_po q
    cases dp with
    | bl b' =>
      cases hb
      exact ⟨_, rfl, q F1 H1 k1 e1⟩
    | _ => cases hb
theorem t_tru {e : Expr} {m : M D} (h : PE X e (tM c m)) (hK : c.K = X.K := by rfl) (he : ∀ whole, isTrue e X.env whole = (do let v ← whole; standAt e.pos; holding [v] (truthy v)) := by intro _; rfl) : PT X e (tT c (tTru m)) :=
  pt_cq (pt_truth h he) fun st H Q ⟨pa, H0, F0, F, r, ok, po⟩ => seqM ok po fun d r1 F1 H1 v k1 e1 dp q => by
    obtain ⟨b, hb, q⟩ := opt_po q
    have fin := q F1 H1 k1 e1
    cases dp with
    | non => cases hb; exact ⟨_, rfl, fin⟩
    | bl b' => cases hb; exact ⟨_, rfl, fin⟩
    | int i => cases hb; exact ⟨_, rfl, fin⟩
    | str x =>
      have hb : (if x.length ≤ 16777216 then some ((x.length : Int) != 0) else none) = some b := hb
      by_cases hx : x.length ≤ 16777216
      · rw [if_pos hx] at hb
        cases hb
        exact ⟨_, ⟨by rw [sizeLine_eq]; exact hx, rfl⟩, fin⟩
      · rw [if_neg hx] at hb
        cases hb
    | lst h1 h2 =>
      cases hb
      exact ⟨_, .inl ⟨_, by rw [← hK]; exact k1.fH.l h1, dpa_emp h2⟩, fin⟩
    | tup h1 h2 =>
      cases hb
      exact ⟨_, .inr (.inl ⟨_, by rw [← hK]; exact k1.fH.t h1, dpa_emp h2⟩), fin⟩
    | _ => cases hb
theorem t_not {e : Expr} {m : M Bool} {pos : Pos} (h : PT X e (tT c m)) : PT X (.UnaryOp .Not e pos) (tT c (tNotM m)) :=
  pt_cq (pt_not h) fun st H Q ⟨pa, H0, F0, F, r, ok, po⟩ => seqT ok po fun b r1 F1 H1 k1 e1 q => q F1 H1 k1 e1
theorem w_and1 {e : Expr} {m : M Bool} {pos : Pos} (h : PT X e (tT c m)) : PW X (.BoolOp .And [e] pos) (tT c m) := pw_and1 h
theorem w_or1 {e : Expr} {m : M Bool} {pos : Pos} (h : PT X e (tT c m)) : PW X (.BoolOp .Or [e] pos) (tT c m) := pw_or1 h
theorem w_and {a b : Expr} {rest : List Expr} {m n : M Bool} {pos : Pos} (h : PT X a (tT c m)) (h2 : PW X (.BoolOp .And (b :: rest) pos) (tT c n)) : PW X (.BoolOp .And (a :: b :: rest) pos) (tT c (tAndM m n)) :=
  pw_cq (pw_and h h2) fun st H Q ⟨pa, H0, F0, F, r, ok, po⟩ => seqT ok po fun b r1 F1 H1 k1 e1 q => by
    cases b with
    | true => exact againT k1 e1 q
    | false => exact q F1 H1 k1 e1
theorem w_or {a b : Expr} {rest : List Expr} {m n : M Bool} {pos : Pos} (h : PT X a (tT c m)) (h2 : PW X (.BoolOp .Or (b :: rest) pos) (tT c n)) : PW X (.BoolOp .Or (a :: b :: rest) pos) (tT c (tOrM m n)) :=
  pw_cq (pw_or h h2) fun st H Q ⟨pa, H0, F0, F, r, ok, po⟩ => seqT ok po fun b r1 F1 H1 k1 e1 q => by
    cases b with
    | true => exact q F1 H1 k1 e1
    | false => exact againT k1 e1 q
/-! ### and, or, not as values -/
def eNot (m : M D) : M D := (tBool m).bind fun b => M.ret (.bool (!b))
def eAnd (m n : M D) : M D := (tBool m).bind fun b => if b = true then n else M.ret (.bool false)
def eOr (m n : M D) : M D := (tBool m).bind fun b => if b = true then M.ret (.bool true) else n
theorem seqB {α : Type} {pa : Nat → Addr} {H0 F0 F H : Hp} {st : L2.St} {r : En} {ma : M D} {f : Bool → M α} {k : α → En → Prop} {Q : VK} (ok : Ok c.K pa H0 F0 F H st r) (po : Po (XW c pa H0 F0 F) ((tBool ma).bind f r) k)
    (h : ∀ b r1 F1 H1, Ok c.K pa H0 F0 F1 H1 st r1 → Ex F F1 → Po (XW c pa H0 F0 F1) (f b r1) k → Q (.bl b) H1) : tM c ma st H Q := by
  have po2 : Po (XW c pa H0 F0 F) (ma.bind (fun d => (M.opt (match d with
    | .bool b => some b
    | _ => none)).bind f) r) k := by
    unfold tBool M.bind at po
    unfold M.bind
    cases hm : ma r with
    | ok d r1 =>
      rw [hm] at po
      exact po
    | ex e r1 =>
      rw [hm] at po
      exact po
    | no =>
      rw [hm] at po
      exact po
  refine seqM ok po2 fun d r1 F1 H1 v k1 e1 dp q => ?_
  cases dp with
  | bl b => exact h b r1 F1 H1 k1 e1 q
  | _ => exact q.elim
theorem e_one {op} {e : Expr} {m : M D} {pos : Pos} (h : PE X e (tM c m)) : PE X (.BoolOp op [e] pos) (tM c m) := pe_one h
theorem e_and {a b : Expr} {rest : List Expr} {m n : M D} {pos : Pos} (h : PE X a (tM c m)) (h2 : PE X (.BoolOp .And (b :: rest) pos) (tM c n)) : PE X (.BoolOp .And (a :: b :: rest) pos) (tM c (eAnd m n)) :=
  pe_cq (pe_and h h2) fun st H Q ⟨pa, H0, F0, F, r, ok, po⟩ => seqB ok po fun b r1 F1 H1 k1 e1 q => ⟨b, rfl, by
    cases b with
    | true => exact againM k1 e1 q
    | false => exact q F1 H1 _ k1 e1 (.bl _)⟩
/-- a if t else b -/
def eIf (t : M Bool) (m n : M D) : M D := t.bind fun b => if b = true then m else n
end
end Pu
namespace Pu
open PySem PySem.Spec PyProof.Rows L2
variable [TabT]
/-! ### storing -/
def setN (i : Nat) (s : Sl) (r : En) : Option En := match r[i]? with
  | some (.io _) => none
  | some .pin => none
  | some _ => some (r.set i s)
  | none => none
theorem setN_some {i : Nat} {s : Sl} {r r' : En} (h : setN i s r = some r') : r' = r.set i s ∧ ∀ q, r[i]? = some q → q.isIo = false := by
  unfold setN at h
  split at h
  · cases h
  · cases h
  · rename_i q hn hp hq
    cases h
    refine ⟨rfl, fun q' e => ?_⟩
    rw [hq] at e
    cases e
    cases q with
    | io c => exact absurd rfl (hn c)
    | pin => exact absurd rfl hp
    | _ => rfl
  · cases h
def setM (i : Nat) (s : Sl) : M Fl := fun r => match setN i s r with
  | some r' => .ok .nx r'
  | none => .no
theorem setM_po {i : Nat} {s : Sl} {r : En} {Xp : Exn → En → Prop} {k : Fl → En → Prop} (h : Po Xp (setM i s r) k) : k .nx (r.set i s) ∧ ∀ q, r[i]? = some q → q.isIo = false := by
  unfold setM at h
  cases e : setN i s r with
  | none =>
    rw [e] at h
    exact h.elim
  | some r' =>
    rw [e] at h
    obtain ⟨rfl, h2⟩ := setN_some e
    exact ⟨h, h2⟩
def slOf : RV → Sl
  | .v d => .v d
  | .o c => .o c
def sSet (i : Nat) (m : M D) : M Fl := m.bind fun d => setM i (.v d)
def sSetO (i : Nat) (m : M RV) : M Fl := m.bind fun d => setM i (slOf d)
def sNil : M Fl := M.ret .nx
def sSeq (m n : M Fl) : M Fl := m.bind fun fl => match fl with
  | .nx => n
  | f => M.ret f
def sIf (t : M Bool) (a b : M Fl) : M Fl := t.bind fun x => if x = true then a else b
def sRet (m : M RV) : M Fl := m.bind fun d => M.ret (.rt d)
def sDrop (m : M D) : M Fl := m.bind fun _ => M.ret .nx
def sDropO (m : M RV) : M Fl := m.bind fun _ => M.ret .nx
section
variable {X : Cx} {c : Cc} {K : PySem.W.Frag} {pa : Nat → Addr} {H0 F0 F H : Hp} {st0 : L2.St} {r0 : En}
theorem Ok.setRv (k : Ok K pa H0 F0 F H st0 r0) {i : Nat} {v : V} {d : RV} (hi : ∀ q, r0[i]? = some q → q.isIo = false) (h : RvOk K H0 F H st0 r0 v d) : Ok K pa H0 F0 F H (st0.set i (some v)) (r0.set i (slOf d)) := by
  cases d with
  | v d => exact k.setV hi h
  | o ct =>
    obtain ⟨a, rfl, z1, z2, z3, z4⟩ := h
    refine k.set (s := .o ct) hi rfl ⟨a, rfl, z1, z2, z3⟩ fun a' c' e0 e => ?_
    cases e
    cases e0
    exact ⟨z4.1.unk, fun b hb => by
      obtain ⟨g1, g2, g3, g4⟩ := z4.2 b hb
      exact ⟨g1, g2, g3, g4.unk⟩⟩
theorem s_set {i : Nat} {x : Str} {e : Expr} {m : M D} {pos pos' : Pos} (he : PE X e (tM c m)) (hN : X.N.Nodup) (hi : X.N[i]? = some x := by rfl) (hx : Loc X.env.scope x := by first | exact Or.inl rfl | exact Or.inr rfl)
    (hs : swapsWith e (some (.Name x pos')) pos.line X.env = pure false := by rfl) (hf : X.fn x = true ∨ X.env.scope.names.lookup x = some .local := by first | exact .inl rfl | exact .inr rfl) : PS X (.Assign [.Name x pos'] e pos) (sM c (sSet i m)) :=
  ps_cq (ps_set hN hi hx he hs hf) fun Dd st H ⟨pa, H0, F0, F, r, ok, po⟩ => seqM ok po fun d r1 F1 H1 v k1 e1 dp q => by
    obtain ⟨q, hi⟩ := setM_po q
    exact q F1 H1 _ (k1.setV hi dp) e1
theorem s_setO {i : Nat} {x : Str} {e : Expr} {m : M RV} {pos pos' : Pos} (he : PE X e (tO c m)) (hN : X.N.Nodup) (hi : X.N[i]? = some x := by rfl) (hx : Loc X.env.scope x := by first | exact Or.inl rfl | exact Or.inr rfl)
    (hs : swapsWith e (some (.Name x pos')) pos.line X.env = pure false := by rfl) (hf : X.fn x = true ∨ X.env.scope.names.lookup x = some .local := by first | exact .inl rfl | exact .inr rfl) : PS X (.Assign [.Name x pos'] e pos) (sM c (sSetO i m)) :=
  ps_cq (ps_set hN hi hx he hs hf) fun Dd st H ⟨pa, H0, F0, F, r, ok, po⟩ => seqO ok po fun d r1 F1 H1 v k1 e1 dp q => by
    obtain ⟨q, hi⟩ := setM_po q
    exact q F1 H1 _ (k1.setRv hi dp) e1
theorem ss_nil : PSs X [] (sM c sNil) := pss_cq pss_nil fun Dd st H ⟨pa, H0, F0, F, r, ok, po⟩ => po F H st ok (Ex.refl F)
theorem seqS {s1 : M Fl} {t : TS} {n : M Fl} {Dd : Ends} {st : L2.St} {H : Hp} (h : sM c (sSeq s1 n) Dd st H) (ht : ∀ Dd st H, sM c n Dd st H → t Dd st H) : sM c s1 { Dd with nx := t Dd } st H := by
  obtain ⟨pa, H0, F0, F, r, ok, po⟩ := h
  refine ⟨pa, H0, F0, F, r, ok, (Po.bind po).mono (fun _ _ x => x) fun fl r1 q => ?_⟩
  cases fl with
  | nx => exact fun F' H' st' k e => ht Dd st' H' (againS k e (q.mono (XW.mono e) fun _ _ x => x))
  | bk => exact q
  | ct => exact q
  | rt rv => exact q
theorem ss_cons {s : Stmt} {rest : List Stmt} {m n : M Fl} (h1 : PS X s (sM c m)) (h2 : PSs X rest (sM c n)) : PSs X (s :: rest) (sM c (sSeq m n)) :=
  pss_cq (pss_cons h1 h2) fun Dd st H h => seqS h fun _ _ _ x => x
theorem ss_one {s : Stmt} {m : M Fl} (h1 : PS X s (sM c m)) : PSs X [s] (sM c m) := pss_one h1
theorem s_if {t : Expr} {a b : List Stmt} {mt : M Bool} {ma mb : M Fl} {pos : Pos} (ht : PT X t (tT c mt)) (ha : PSs X a (sM c ma)) (hb : PSs X b (sM c mb)) : PS X (.If t a b pos) (sM c (sIf mt ma mb)) :=
  ps_cq (ps_if ht ha hb) fun Dd st H ⟨pa, H0, F0, F, r, ok, po⟩ => seqT ok po fun b r1 F1 H1 k1 e1 q => by
    cases b with
    | true => exact againS k1 e1 q
    | false => exact againS k1 e1 q
theorem s_ret {e : Expr} {m : M RV} {pos : Pos} (h : PE X e (tO c m)) : PS X (.Return (some e) pos) (sM c (sRet m)) :=
  ps_cq (ps_ret h) fun Dd st H ⟨pa, H0, F0, F, r, ok, po⟩ => seqO ok po fun d r1 F1 H1 v k1 e1 dp q => q F1 H1 st v k1 e1 dp
theorem s_retN {pos : Pos} : PS X (.Return none pos) (sM c (M.ret (.rt (.v .none)))) :=
  ps_cq ps_retN fun Dd st H ⟨pa, H0, F0, F, r, ok, po⟩ => po F H st .non ok (Ex.refl F) .non
theorem s_expr {e : Expr} {m : M D} {pos : Pos} (h : PE X e (tM c m)) (hs : swapsWith e none pos.line X.env = pure false := by rfl) : PS X (.Expr e pos) (sM c (sDrop m)) :=
  ps_cq (ps_expr h hs) fun Dd st H ⟨pa, H0, F0, F, r, ok, po⟩ => seqM ok po fun d r1 F1 H1 v k1 e1 dp q => q F1 H1 st k1 e1
theorem s_exprO {e : Expr} {m : M RV} {pos : Pos} (h : PE X e (tO c m)) (hs : swapsWith e none pos.line X.env = pure false := by rfl) : PS X (.Expr e pos) (sM c (sDropO m)) :=
  ps_cq (ps_expr h hs) fun Dd st H ⟨pa, H0, F0, F, r, ok, po⟩ => seqO ok po fun d r1 F1 H1 v k1 e1 dp q => q F1 H1 st k1 e1
/-! ### an owned variable frozen, taken -/
def frzE (i : Nat) (r : En) : En := match r[i]? with
  | some (.o (.l ds)) => r.set i (.v (.list ds))
  | some (.o (.n t)) => (match t.data with
    | some d => r.set i (.v d)
    | none => r)
  | _ => r
def frz (i : Nat) {α : Type} (m : M α) : M α := fun r => m (frzE i r)
theorem Ok.frzE (k : Ok K pa H0 F0 F H st0 r0) (i : Nat) : ∃ F', Ok K pa H0 F0 F' H st0 (frzE i r0) ∧ Ex F F' := by
  unfold Pu.frzE
  split
  · exact k.freeze (by assumption)
  · split
    · exact k.freezeN (by assumption) (by assumption)
    · exact ⟨F, k, Ex.refl F⟩
  · exact ⟨F, k, Ex.refl F⟩
theorem s_frz (i : Nat) {s : Stmt} {m : M Fl} (h : PS X s (sM c m)) : PS X s (sM c (frz i m)) :=
  ps_cq h fun Dd st H ⟨pa, H0, F0, F, r, ok, po⟩ => by
    obtain ⟨F', k, e⟩ := ok.frzE i
    exact ⟨pa, H0, F0, F', _, k, po.mono (XW.mono e) fun _ _ q => q.mono e⟩
def takeS (i : Nat) : M RV := fun r => match r[i]? with
  | some (.v d) => .ok (.v d) r
  | some (.o ct) => .ok (.o ct) (r.set i .unk)
  | _ => .no
theorem set_same {st : L2.St} {i : Nat} {v : Option V} (h : st[i]? = some v) : st.set i v = st := by
  apply List.ext_getElem?
  intro j
  by_cases e : i = j
  · subst e
    rw [List.getElem?_set_self (List.getElem?_eq_some_iff.mp h).1, h]
  · rw [List.getElem?_set_ne e]
theorem o_take (i : Nat) {x : Str} {pos : Pos} (hN : X.N[i]? = some x := by rfl) (hv : Vis X.env.scope x := by first | exact Or.inl rfl | exact Or.inr (Or.inl rfl) | exact Or.inr (Or.inr rfl)) (hd : (x == ("__debug__" : Str)) = false := by decide)
    (hcd : (x == ("__classdict__" : Str)) = false := by decide) : PE X (.Name x pos) (tO c (takeS i)) :=
  pe_cq (pe_var (i := i) hN hv hd hcd) fun st H Q ⟨pa, H0, F0, F, r, ok, po⟩ => by
    unfold takeS at po
    split at po
    · rename_i d h
      obtain ⟨v, e1, e2⟩ := ok.val h
      exact ⟨v, e1, po F H v ok (Ex.refl F) e2⟩
    · rename_i ct h
      obtain ⟨a, z1, z2, z3, z4⟩ := ok.ownd h rfl
      have k2 := ok.forget (i := i) (x := some (V.ref a))
      rw [set_same z1] at k2
      have aw := ok.away (x := some (V.ref a)) h rfl z1
      rw [set_same z1] at aw
      exact ⟨_, z1, po F H _ k2 (Ex.refl F) ⟨a, rfl, z2, z3, z4, aw⟩⟩
    · exact po.elim
end
/-! ### targets -/
def Agr (is : List Nat) (st st' : L2.St) : Prop := st'.length = st.length ∧ ∀ j, j ∉ is → st'[j]? = st[j]?
/-- what is stored where: a datum to a target -/
abbrev Tg := D → En → Option En
abbrev Tgs := List D → En → Option En
def gM (K : PySem.W.Frag) (is : List Nat) (tg : Tg) : TG := fun v st H Q => ∃ pa H0 F0 F r d r', Ok K pa H0 F0 F H st r ∧ Rp K F v d ∧ tg d r = some r' ∧ ∀ st', Ok K pa H0 F0 F H st' r' → Agr is st st' → Q st' H
def gMs (K : PySem.W.Frag) (is : List Nat) (tg : Tgs) : TGs := fun vs st H Q => ∃ pa H0 F0 F r ds r', Ok K pa H0 F0 F H st r ∧ RpAll K F vs ds ∧ tg ds r = some r' ∧ ∀ st', Ok K pa H0 F0 F H st' r' → Agr is st st' → Q st' H
def gN (i : Nat) : Tg := fun d r => setN i (.v d) r
def gT (tg : Tgs) : Tg := fun d r => match d with
  | .tuple ds => tg ds r
  | .list ds => tg ds r
  | _ => none
def gNl : Tgs := fun ds r => match ds with
  | [] => some r
  | _ => none
def gCn (t : Tg) (ts : Tgs) : Tgs := fun ds r => match ds with
  | d :: ds => (t d r).bind fun r' => ts ds r'
  | _ => none
section
variable {X : Cx} {c : Cc}
theorem pg_cq {e : Expr} {t t' : TG} (h : PG X e t) (i : ∀ v st H Q, t' v st H Q → t v st H Q) : PG X e t' := ⟨fun pins s st H v u Q I rv q => h.run pins s st H v u Q I rv (i v st H Q q)⟩
theorem pgs_cq {e : List Expr} {t t' : TGs} (h : PGs X e t) (i : ∀ v st H Q, t' v st H Q → t v st H Q) : PGs X e t' := ⟨fun pins s st H v u Q I rv q => h.run pins s st H v u Q I rv (i v st H Q q)⟩
theorem g_name (i : Nat) {K : PySem.W.Frag} {x : Str} {pos : Pos} (hN : X.N.Nodup) (hi : X.N[i]? = some x := by rfl) (hx : Loc X.env.scope x := by first | exact Or.inl rfl | exact Or.inr rfl) (hf : X.fn x = true ∨ X.env.scope.names.lookup x = some .local := by first | exact .inl rfl | exact .inr rfl) : PG X (.Name x pos) (gM K [i] (gN i)) :=
  pg_cq (pg_name hN hi hx hf) fun v st H Q ⟨pa, H0, F0, F, r, d, r', ok, dp, e, q⟩ => by
    obtain ⟨rfl, h2⟩ := setN_some e
    exact q _ (ok.setV h2 dp) ⟨List.length_set, fun j hj => List.getElem?_set_ne (fun z => hj (by rw [z]; exact List.mem_singleton.mpr rfl))⟩
theorem g_nil {K : PySem.W.Frag} : PGs X [] (gMs K [] gNl) := pgs_cq pgs_nil fun v st H Q ⟨pa, H0, F0, F, r, ds, r', ok, dp, e, q⟩ => by
  cases dp with
  | nil =>
    cases e
    exact ⟨rfl, q st ok ⟨rfl, fun _ _ => rfl⟩⟩
  | cons _ _ => cases e
theorem g_cons {K : PySem.W.Frag} {e : Expr} {es : List Expr} {is js : List Nat} {t : Tg} {ts : Tgs} (h1 : PG X e (gM K is t)) (h2 : PGs X es (gMs K js ts)) (hs : (assignEach (e :: es) X.env).map (·.2) = assign e X.env :: (assignEach es X.env).map (·.2) := by rfl) : PGs X (e :: es) (gMs K (is ++ js) (gCn t ts)) :=
  pgs_cq (pgs_cons h1 h2 hs) fun v st H Q ⟨pa, H0, F0, F, r, ds, r', ok, dp, e, q⟩ => by
    cases dp with
    | nil => cases e
    | @cons v0 vs d ds d0 dr =>
      have e : (t d r).bind (fun r' => ts ds r') = some r' := e
      cases ht : t d r with
      | none =>
        rw [ht] at e
        cases e
      | some r1 =>
        rw [ht] at e
        refine ⟨v0, vs, rfl, pa, H0, F0, F, r, d, r1, ok, d0, ht, fun st' k1 ag => ⟨pa, H0, F0, F, r1, ds, r', k1, dr, e, fun st2 k2 ag2 => q st2 k2 ⟨ag2.1.trans ag.1, fun j hj => ?_⟩⟩⟩
        rw [ag2.2 j (fun z => hj (List.mem_append_right _ z)), ag.2 j (fun z => hj (List.mem_append_left _ z))]
theorem pg_or' {e : Expr} {t t' : TG} (h : PG X e t) (h' : PG X e t') : PG X e (fun v st H Q => t v st H Q ∨ t' v st H Q) := ⟨fun pins s st H v u Q I rv q => q.elim (h.run pins s st H v u Q I rv) (h'.run pins s st H v u Q I rv)⟩
theorem g_tup {es : List Expr} {k : Nat} {pos : Pos} {is : List Nat} {ts : Tgs} {n : Nat} (h : PGs X es (gMs X.K is ts)) (hl : ∀ ds r r', ts ds r = some r' → ds.length = n) (hc : X.calm = true := by rfl) (hn : (assignEach es X.env).length = n := by rfl) (hst : (assignEach es X.env).findIdx? (·.1) = none := by rfl) : PG X (.Tuple es k pos) (gM X.K is (gT ts)) :=
  pg_cq (pg_or' (pg_tup hc h hn hst) (pg_unl hc h hn hst)) fun v st H Q ⟨pa, H0, F0, F, r, d, r', ok, dp, e, q⟩ => by
    cases dp with
    | @tup a xs ds h1 h2 =>
      have e : ts ds r = some r' := e
      exact .inl ⟨a, xs, rfl, ok.fH.t h1, (dpa_len h2).trans (hl _ _ _ e), pa, H0, F0, F, r, ds, r', ok, h2, e, q⟩
    | @lst a xs ds h1 h2 =>
      have e : ts ds r = some r' := e
      exact .inr ⟨a, xs, rfl, ok.fH.l h1, (dpa_len h2).trans (hl _ _ _ e), pa, H0, F0, F, r, ds, r', ok, h2, e, q⟩
    | _ => cases e
theorem gNl_len : ∀ ds r r', gNl ds r = some r' → ds.length = 0 := fun ds r r' h => by
  cases ds with
  | nil => rfl
  | cons _ _ => cases h
theorem gCn_len {t : Tg} {ts : Tgs} {n : Nat} (h : ∀ ds r r', ts ds r = some r' → ds.length = n) : ∀ ds r r', gCn t ts ds r = some r' → ds.length = n + 1 := fun ds r r' e => by
  cases ds with
  | nil => cases e
  | cons d ds =>
    have e : (t d r).bind (fun r' => ts ds r') = some r' := e
    cases ht : t d r with
    | none =>
      rw [ht] at e
      cases e
    | some r1 =>
      rw [ht] at e
      exact congrArg Nat.succ (h ds r1 r' e)
/-- target = e -/
def sAsg (tg : Tg) (m : M D) : M Fl := m.bind fun d r => match tg d r with
  | some r' => .ok .nx r'
  | none => .no
theorem s_asg {tg e : Expr} {m : M D} {is : List Nat} {t : Tg} {pos : Pos} (he : PE X e (tM c m)) (hg : PG X tg (gM c.K is t)) (hs : swapsWithSole [tg] e pos.line X.env = pure false := by rfl) (hw : swappedStores [tg] e X.env = pure none := by rfl)
    (h1 : (assignEach [tg] X.env).map (·.2) = [assign tg X.env] := by rfl) : PS X (.Assign [tg] e pos) (sM c (sAsg t m)) :=
  ps_cq (ps_asg he hg hs hw h1) fun Dd st H ⟨pa, H0, F0, F, r, ok, po⟩ => seqM ok po fun d r1 F1 H1 v k1 e1 dp q => by
    cases ht : t d r1 with
    | none =>
      rw [ht] at q
      exact q.elim
    | some r2 =>
      rw [ht] at q
      exact ⟨pa, H0, F0, F1, r1, d, r2, k1, dp, ht, fun st' k2 _ => q F1 H1 st' k2 e1⟩
/-- x, y = a, b -/
def sPar (i j : Nat) (ms : M (List D)) : M Fl := ms.bind fun ds => match ds with
  | [a, b] => fun r => match (setN i (.v a) r).bind (setN j (.v b)) with
    | some r' => .ok .nx r'
    | none => .no
  | _ => M.no
end
/-! ### loops -/
def forL (tg : Tg) (b : M Fl) : List D → M Fl
  | [], r => .ok .nx r
  | x :: xs, r => match tg x r with
    | none => .no
    | some r1 => match b r1 with
      | .ok .nx r2 => forL tg b xs r2
      | .ok .ct r2 => forL tg b xs r2
      | .ok .bk r2 => .ok .nx r2
      | .ok (.rt v) r2 => .ok (.rt v) r2
      | .ex e r2 => .ex e r2
      | .no => .no
def sFor (src : M (List D)) (tg : Tg) (b : M Fl) : M Fl := src.bind fun xs => forL tg b xs
def wloop (t : M Bool) (b : M Fl) : Nat → M Fl
  | 0, _ => .no
  | n + 1, r => match t r with
    | .ok true r1 => (match b r1 with
      | .ok .nx r2 => wloop t b n r2
      | .ok .ct r2 => wloop t b n r2
      | .ok .bk r2 => .ok .nx r2
      | .ok (.rt v) r2 => .ok (.rt v) r2
      | .ex e r2 => .ex e r2
      | .no => .no)
    | .ok false r1 => .ok .nx r1
    | .ex e r1 => .ex e r1
    | .no => .no
open Classical in
noncomputable def sWhile (t : M Bool) (b : M Fl) : M Fl := fun r => if h : ∃ n, wloop t b n r ≠ .no then wloop t b (Classical.choose h) r else .no
theorem wloop_mono {t : M Bool} {b : M Fl} : ∀ {n : Nat} {r : En}, wloop t b n r ≠ .no → ∀ m, n ≤ m → wloop t b m r = wloop t b n r := by
  intro n
  induction n with
  | zero => intro r h; exact absurd rfl h
  | succ n ih =>
    intro r h m hm
    cases m with
    | zero => omega
    | succ m =>
      have hm : n ≤ m := by omega
      unfold wloop at h ⊢
      cases ht : t r with
      | no => rfl
      | ex e r1 => rfl
      | ok x r1 =>
        rw [ht] at h
        cases x with
        | false => rfl
        | true =>
          have h : (match b r1 with
            | .ok .nx r2 => wloop t b n r2
            | .ok .ct r2 => wloop t b n r2
            | .ok .bk r2 => .ok .nx r2
            | .ok (.rt v) r2 => .ok (.rt v) r2
            | .ex e r2 => .ex e r2
            | .no => .no) ≠ .no := h
          show (match b r1 with
            | .ok .nx r2 => wloop t b m r2
            | .ok .ct r2 => wloop t b m r2
            | .ok .bk r2 => .ok .nx r2
            | .ok (.rt v) r2 => .ok (.rt v) r2
            | .ex e r2 => .ex e r2
            | .no => .no) = (match b r1 with
            | .ok .nx r2 => wloop t b n r2
            | .ok .ct r2 => wloop t b n r2
            | .ok .bk r2 => .ok .nx r2
            | .ok (.rt v) r2 => .ok (.rt v) r2
            | .ex e r2 => .ex e r2
            | .no => .no)
          cases hb : b r1 with
          | no => rfl
          | ex e r2 => rfl
          | ok fl r2 =>
            rw [hb] at h
            cases fl with
            | nx => exact ih h m hm
            | ct => exact ih h m hm
            | bk => rfl
            | rt v => rfl
theorem sWhile_of {t : M Bool} {b : M Fl} {n : Nat} {r : En} {x : Re Fl} (h : wloop t b n r = x) (hx : x ≠ .no) : sWhile t b r = x := by
  have ex : ∃ n, wloop t b n r ≠ .no := ⟨n, by rw [h]; exact hx⟩
  have e : sWhile t b r = wloop t b (Classical.choose ex) r := by
    unfold sWhile
    rw [dif_pos ex]
  have sp := Classical.choose_spec ex
  rw [e]
  rcases Nat.le_total n (Classical.choose ex) with l | l
  · rw [wloop_mono (by rw [h]; exact hx) _ l, h]
  · rw [← wloop_mono sp _ l, h]
theorem sWhile_ex {t : M Bool} {b : M Fl} {r : En} {Xp : Exn → En → Prop} {k : Fl → En → Prop} (h : Po Xp (sWhile t b r) k) : ∃ n, Po Xp (wloop t b n r) k := by
  unfold sWhile at h
  split at h
  · exact ⟨_, h⟩
  · exact h.elim
/-- what is walked: its items -/
structure Yl (K : PySem.W.Frag) (F1 : Hp) (J : It) (xs : List D) : Prop where
  go : ∀ i H, i < xs.length → Ex F1 H → J.go i H
  stop : ∀ H, Ex F1 H → J.stop xs.length H
  yld : ∀ (i : Nat) (H : Hp) (x : V) (H' : Hp) (d : D), xs[i]? = some d → Ex F1 H → J.yld i H x H' → (H' = H ∧ Rp K F1 x d) ∨ ∃ T vs ds, x = .ref T ∧ H T = none ∧ H' = upd H T (.tup vs) ∧ d = .tuple ds ∧ RpAll K F1 vs ds
def iM (c : Cc) (m : M (List D)) : TI := fun st H R => ∃ pa H0 F0 F r, Ok c.K pa H0 F0 F H st r ∧ Po (XW c pa H0 F0 F) (m r) fun xs r' => ∀ F' H' J, Ok c.K pa H0 F0 F' H' st r' → Ex F F' → Yl c.K F' J xs → R J H'
theorem Yl.step {K : PySem.W.Frag} {F1 : Hp} {J : It} {xs : List D} (y : Yl K F1 J xs) {pa : Nat → Addr} {H0 F0 F H : Hp} {st : L2.St} {r : En} (k : Ok K pa H0 F0 F H st r) (e : Ex F1 F) {i : Nat} {x : V} {H' : Hp} {d : D} (hd : xs[i]? = some d) (hy : J.yld i H x H') :
    ∃ F', Ok K pa H0 F0 F' H' st r ∧ Ex F F' ∧ Rp K F' x d := by
  rcases y.yld i H x H' d hd (e.trans k.fH) hy with ⟨rfl, dp⟩ | ⟨T, vs, ds, rfl, nT, rfl, rfl, dps⟩
  · exact ⟨F, k, Ex.refl F, dp_mono e dp⟩
  · have nF := k.fH.nn nT
    exact ⟨_, k.layF nT, Ex.new nF, .tup upd_same (dpa_mono (e.trans (Ex.new nF)) dps)⟩
theorem drop_cons {α : Type} {xs : List α} {i : Nat} {x : α} (h : xs[i]? = some x) : xs.drop i = x :: xs.drop (i + 1) := by
  obtain ⟨hl, e⟩ := List.getElem?_eq_some_iff.mp h
  rw [List.drop_eq_getElem_cons hl, e]
section
variable {X : Cx} {c : Cc}
theorem pi_cq {tg e : Expr} {t t' : TI} (h : PI X tg e t) (i : ∀ st H R, t' st H R → t st H R) : PI X tg e t' := ⟨fun pins s st H R I q => h.run pins s st H R I (i st H R q)⟩
theorem s_for {tg iter : Expr} {body : List Stmt} {src : M (List D)} {is : List Nat} {t : Tg} {mb : M Fl} {pos : Pos} (hi : PI X tg iter (iM c src)) (hg : PG X tg (gM c.K is t)) (hb : PSs X body (sM c mb)) (hp : PassesOwn (model X.prog X.w) X.A X.env X.xe) (hc : X.calm = true := by rfl)
    (hs : ∀ x, foldedSetIterable iter X.env x = pure x := by intro _; rfl) : PS X (.For tg iter body [] pos) (sM c (sFor src t mb)) :=
  ps_cq (ps_for hp hc hi hg hb hs) fun Dd st H ⟨pa, H0, F0, F, r, ok, po⟩ => by
    refine ⟨pa, H0, F0, F, r, ok, (Po.bind po).mono (fun _ _ x => x) fun xs r1 q F1 H1 J k1 e1 y => ?_⟩
    refine ⟨fun i m st H => i + m = xs.length ∧ ∃ F' r', Ok c.K pa H0 F0 F' H st r' ∧ Ex F1 F' ∧ Po (XW c pa H0 F0 F') (forL t mb (xs.drop i) r') (fun fl r' => flEnd c.K pa H0 F0 F' Dd r' fl), ⟨xs.length, by omega, F1, r1, k1, Ex.refl F1, q.mono (XW.mono e1) fun _ _ x => x.mono e1⟩, fun i m st H hW => ?_⟩
    obtain ⟨hm, F', r', k, e, po⟩ := hW
    by_cases hl : i < xs.length
    · have hx : xs[i]? = some xs[i] := List.getElem?_eq_getElem hl
      rw [drop_cons hx] at po
      refine .inr ⟨y.go i H hl (e.trans k.fH), fun st2 H2 => ∃ F2 r2, Ok c.K pa H0 F0 F2 H2 st2 r2 ∧ Ex F1 F2 ∧ Po (XW c pa H0 F0 F2) (forL t mb (xs.drop (i + 1)) r2) (fun fl r' => flEnd c.K pa H0 F0 F2 Dd r' fl), fun st2 H2 ⟨F2, r2, a1, a2, a3⟩ => ⟨m - 1, by omega, by omega, F2, r2, a1, a2, a3⟩, fun x H2 hy => ?_⟩
      obtain ⟨F2, k2, e2, dp2⟩ := y.step k e hx hy
      unfold forL at po
      cases ht : t xs[i] r' with
      | none =>
        rw [ht] at po
        exact po.elim
      | some r2 =>
        rw [ht] at po
        refine ⟨pa, H0, F0, F2, r', xs[i], r2, k2, dp2, ht, fun st3 k3 _ => ?_⟩
        refine ⟨pa, H0, F0, F2, r2, k3, ?_⟩
        have po : Po (XW c pa H0 F0 F') (match mb r2 with
          | .ok .nx r2 => forL t mb (xs.drop (i + 1)) r2
          | .ok .ct r2 => forL t mb (xs.drop (i + 1)) r2
          | .ok .bk r2 => .ok .nx r2
          | .ok (.rt v) r2 => .ok (.rt v) r2
          | .ex e r2 => .ex e r2
          | .no => .no) (fun fl r' => flEnd c.K pa H0 F0 F' Dd r' fl) := po
        cases hb : mb r2 with
        | no =>
          rw [hb] at po
          exact po.elim
        | ex ee r3 =>
          rw [hb] at po
          exact XW.mono e2 _ _ po
        | ok fl r3 =>
          rw [hb] at po
          cases fl with
          | nx => exact fun F4 H4 st4 k4 e4 => ⟨F4, r3, k4, (e.trans e2).trans e4, po.mono (XW.mono (e2.trans e4)) fun _ _ x => x.mono (e2.trans e4)⟩
          | ct => exact fun F4 H4 st4 k4 e4 => ⟨F4, r3, k4, (e.trans e2).trans e4, po.mono (XW.mono (e2.trans e4)) fun _ _ x => x.mono (e2.trans e4)⟩
          | bk => exact fun F4 H4 st4 k4 e4 => po F4 H4 st4 k4 (e2.trans e4)
          | rt rv => exact fun F4 H4 st4 v k4 e4 => po F4 H4 st4 v k4 (e2.trans e4)
    · have ei : i = xs.length := by omega
      subst ei
      rw [List.drop_length] at po
      exact .inl ⟨y.stop H (e.trans k.fH), po F' H st k (Ex.refl F')⟩
theorem s_while {t : Expr} {body : List Stmt} {mt : M Bool} {mb : M Fl} {pos : Pos} (ht : PT X t (tT c mt)) (hb : PSs X body (sM c mb)) (hp : PassesOwn (model X.prog X.w) X.A X.env X.xe) : PS X (.While t body [] pos) (sM c (sWhile mt mb)) :=
  ps_cq (ps_while hp ht hb) fun Dd st H ⟨pa, H0, F0, F, r, ok, po⟩ => by
    obtain ⟨n, po⟩ := sWhile_ex po
    refine ⟨fun m st H => ∃ F' r', Ok c.K pa H0 F0 F' H st r' ∧ Ex F F' ∧ Po (XW c pa H0 F0 F') (wloop mt mb m r') (fun fl r' => flEnd c.K pa H0 F0 F' Dd r' fl), ⟨n, F, r, ok, Ex.refl F, po⟩, fun m st H hW => ?_⟩
    obtain ⟨F', r', k, e, po⟩ := hW
    cases m with
    | zero => exact po.elim
    | succ m =>
      unfold wloop at po
      refine ⟨pa, H0, F0, F', r', k, ?_⟩
      cases h1 : mt r' with
      | no =>
        rw [h1] at po
        exact po.elim
      | ex ee r1 =>
        rw [h1] at po
        exact po
      | ok x r1 =>
        rw [h1] at po
        intro F2 H2 k2 e2
        cases x with
        | false =>
          show Dd.nx st H2
          exact po F2 H2 st k2 e2
        | true =>
          show ∃ N : L2.St → Hp → Prop, _
          refine ⟨fun st2 H2 => ∃ F2 r2, Ok c.K pa H0 F0 F2 H2 st2 r2 ∧ Ex F F2 ∧ Po (XW c pa H0 F0 F2) (wloop mt mb m r2) (fun fl r' => flEnd c.K pa H0 F0 F2 Dd r' fl), fun st2 H2 ⟨F2, r2, a1, a2, a3⟩ => ⟨m, Nat.lt_succ_self m, F2, r2, a1, a2, a3⟩, ?_⟩
          refine ⟨pa, H0, F0, F2, r1, k2, ?_⟩
          have po : Po (XW c pa H0 F0 F') (match mb r1 with
            | .ok .nx r2 => wloop mt mb m r2
            | .ok .ct r2 => wloop mt mb m r2
            | .ok .bk r2 => .ok .nx r2
            | .ok (.rt v) r2 => .ok (.rt v) r2
            | .ex e r2 => .ex e r2
            | .no => .no) (fun fl r' => flEnd c.K pa H0 F0 F' Dd r' fl) := po
          cases hb : mb r1 with
          | no =>
            rw [hb] at po
            exact po.elim
          | ex ee r3 =>
            rw [hb] at po
            exact XW.mono e2 _ _ po
          | ok fl r3 =>
            rw [hb] at po
            cases fl with
            | nx => exact fun F4 H4 st4 k4 e4 => ⟨F4, r3, k4, (e.trans e2).trans e4, po.mono (XW.mono (e2.trans e4)) fun _ _ x => x.mono (e2.trans e4)⟩
            | ct => exact fun F4 H4 st4 k4 e4 => ⟨F4, r3, k4, (e.trans e2).trans e4, po.mono (XW.mono (e2.trans e4)) fun _ _ x => x.mono (e2.trans e4)⟩
            | bk => exact fun F4 H4 st4 k4 e4 => po F4 H4 st4 k4 (e2.trans e4)
            | rt rv => exact fun F4 H4 st4 v k4 e4 => po F4 H4 st4 v k4 (e2.trans e4)
end
end Pu
namespace Pu
open PySem PySem.Spec PyProof.Rows L2
variable [TabT]
/-! ### what is walked -/
theorem pi_or {X : Cx} {tg e : Expr} {t t' : TI} (h : PI X tg e t) (h' : PI X tg e t') : PI X tg e (fun st H R => t st H R ∨ t' st H R) :=
  ⟨fun pins s st H R I q => q.elim (h.run pins s st H R I) (h'.run pins s st H R I)⟩
def seqOf : D → Option (List D)
  | .list ds => some ds
  | .tuple ds => some ds
  | _ => none
def iSeq (m : M D) : M (List D) := m.bind fun d => M.opt (seqOf d)
theorem yl_list {K : PySem.W.Frag} {F : Hp} {a : Addr} {vs : List V} {ds : List D} (h : SqL K F a vs) (hr : RpAll K F vs ds) : Yl K F (Itl K a) ds where
  go := fun i H hi e => by
    have hl := dpa_len hr
    exact ⟨vs, vs[i]'(by omega), e.l h, List.getElem?_eq_getElem (by omega)⟩
  stop := fun H e => ⟨vs, e.l h, by rw [dpa_len hr]; exact Nat.le_refl _⟩
  yld := fun i H x H' d hd e hy => by
    obtain ⟨rfl, q⟩ := hy
    obtain ⟨v, h1, h2⟩ := dpa_get hr hd
    have z := q vs (e.l h)
    rw [h1] at z
    cases z
    exact .inl ⟨rfl, h2⟩
theorem yl_tup {K : PySem.W.Frag} {F : Hp} {a : Addr} {vs : List V} {ds : List D} (h : SqT K F a vs) (hr : RpAll K F vs ds) : Yl K F (Itt K a) ds where
  go := fun i H hi e => by
    have hl := dpa_len hr
    exact ⟨vs, vs[i]'(by omega), e.t h, List.getElem?_eq_getElem (by omega)⟩
  stop := fun H e => ⟨vs, e.t h, by rw [dpa_len hr]; exact Nat.le_refl _⟩
  yld := fun i H x H' d hd e hy => by
    obtain ⟨rfl, q⟩ := hy
    obtain ⟨v, h1, h2⟩ := dpa_get hr hd
    have z := q vs (e.t h)
    rw [h1] at z
    cases z
    exact .inl ⟨rfl, h2⟩
section
variable {X : Cx} {c : Cc}
theorem i_seq {tg e : Expr} {m : M D} (h : PE X e (tM c m)) (hK : c.K = X.K := by rfl) : PI X tg e (iM c (iSeq m)) :=
  pi_cq (pi_or (pi_list h) (pi_tup h)) fun st H R ⟨pa, H0, F0, F, r, ok, po⟩ => by
    have po : Po (XW c pa H0 F0 F) ((m r).bind fun d => M.opt (seqOf d)) _ := po
    cases hm : m r with
    | no =>
      rw [hm] at po
      exact po.elim
    | ex e r1 =>
      rw [hm] at po
      exact .inl ⟨pa, H0, F0, F, r, ok, by rw [hm]; exact po⟩
    | ok d r1 =>
      rw [hm] at po
      obtain ⟨xs, hx, q⟩ := opt_po (show Po (XW c pa H0 F0 F) (M.opt (seqOf d) r1) _ from po)
      cases d with
      | list ds =>
        cases hx
        refine .inl ⟨pa, H0, F0, F, r, ok, ?_⟩
        rw [hm]
        intro F' H' v k e dp
        cases dp with
        | @lst a vs _ h1 h2 => exact ⟨a, rfl, ⟨vs, by rw [← hK]; exact k.fH.l h1⟩, q F' H' _ k e (by rw [← hK]; exact yl_list h1 h2)⟩
      | tuple ds =>
        cases hx
        refine .inr ⟨pa, H0, F0, F, r, ok, ?_⟩
        rw [hm]
        intro F' H' v k e dp
        cases dp with
        | @tup a vs _ h1 h2 => exact ⟨a, rfl, ⟨vs, by rw [← hK]; exact k.fH.t h1⟩, q F' H' _ k e (by rw [← hK]; exact yl_tup h1 h2)⟩
      | _ => cases hx
/-! range -/
def rngD (lo : Int) (n : Nat) : List D := (List.range n).map fun k => .int (lo + (k : Nat))
/-- a choice that nothing can reckon out -/
noncomputable def cI {α : Type} (p : Prop) (a b : α) : α := @ite α p (Classical.propDecidable p) a b
theorem cI_eq {α : Type} (p : Prop) [Decidable p] (a b : α) : cI p a b = if p then a else b := by
  unfold cI
  by_cases h : p
  · rw [if_pos h, if_pos h]
  · rw [if_neg h, if_neg h]
noncomputable def cd (p : Prop) : Bool := @decide p (Classical.propDecidable p)
theorem cd_eq (p : Prop) [Decidable p] : cd p = decide p := by
  unfold cd
  by_cases h : p
  · exact (@decide_eq_true p (Classical.propDecidable p) h).trans (decide_eq_true h).symm
  · exact (@decide_eq_false p (Classical.propDecidable p) h).trans (decide_eq_false h).symm
noncomputable def rng1 : List D → Option (List D)
  | [.int j] => cI (-(2 ^ 62) ≤ j ∧ j < 2 ^ 62) (some (rngD 0 j.toNat)) none
  | _ => none
noncomputable def rng2 : List D → Option (List D)
  | [.int i, .int j] => cI ((-(2 ^ 62) ≤ i ∧ i < 2 ^ 62) ∧ (-(2 ^ 62) ≤ j ∧ j < 2 ^ 62)) (some (rngD i (j - i).toNat)) none
  | _ => none
def iBy (g : List D → Option (List D)) (ms : M (List D)) : M (List D) := ms.bind fun ds => M.opt (g ds)
theorem rng1_some {ds xs : List D} (h : rng1 ds = some xs) : ∃ j : Int, ds = [.int j] ∧ (-(2 ^ 62) ≤ j ∧ j < 2 ^ 62) ∧ xs = rngD 0 j.toNat := by
  unfold rng1 at h
  split at h
  · rw [cI_eq] at h
    split at h
    · cases h
      exact ⟨_, rfl, by assumption, rfl⟩
    · cases h
  · cases h
theorem rpa_one {K : PySem.W.Frag} {F : Hp} {vs : List V} {d : D} (h : RpAll K F vs [d]) : ∃ v, vs = [v] ∧ Rp K F v d := by
  cases h with
  | cons h t =>
    cases t
    exact ⟨_, rfl, h⟩
theorem rpa_two {K : PySem.W.Frag} {F : Hp} {vs : List V} {d e : D} (h : RpAll K F vs [d, e]) : ∃ v w, vs = [v, w] ∧ Rp K F v d ∧ Rp K F w e := by
  cases h with
  | cons h t =>
    obtain ⟨w, rfl, h2⟩ := rpa_one t
    exact ⟨_, w, rfl, h, h2⟩
theorem rp_int {K : PySem.W.Frag} {F : Hp} {v : V} {i : Int} (h : Rp K F v (.int i)) : v = .int i := by
  cases h
  rfl
theorem rngD_len (lo : Int) (n : Nat) : (rngD lo n).length = n := by simp [rngD]
theorem yl_rng {K : PySem.W.Frag} {F : Hp} (lo : Int) (n : Nat) : Yl K F (Itr lo n) (rngD lo n) where
  go := fun i H hi e => by
    rw [rngD_len] at hi
    exact hi
  stop := fun H e => by
    rw [rngD_len]
    exact Nat.le_refl _
  yld := fun i H x H' d hd e hy => by
    obtain ⟨rfl, rfl⟩ := hy
    refine .inl ⟨rfl, ?_⟩
    unfold rngD at hd
    rw [List.getElem?_map] at hd
    cases hr : (List.range n)[i]? with
    | none =>
      rw [hr] at hd
      cases hd
    | some k =>
      rw [hr] at hd
      cases hd
      obtain ⟨h1, h2⟩ := List.getElem?_eq_some_iff.mp hr
      rw [List.getElem_range] at h2
      subst h2
      exact .int _
theorem i_rng1 {tg a : Expr} {ms : M (List D)} {p pos : Pos} (ha : PA X [a] (tA c ms)) (hm : X.mg "range" = none) (hg : Gl X "range" := by rfl) (hs : starEach [a] X.env = [(false, eval a X.env)] := by rfl) : PI X tg (.Call (.Name "range" p) [a] [] pos) (iM c (iBy rng1 ms)) :=
  pi_cq (pi_range1 hg hm ha hs) fun st H R ⟨pa, H0, F0, F, r, ok, po⟩ => seqA ok po fun ds r1 F1 H1 vs k1 e1 dps q => by
    obtain ⟨xs, hx, q⟩ := opt_po q
    obtain ⟨j, rfl, hj, rfl⟩ := rng1_some hx
    obtain ⟨v, rfl, d⟩ := rpa_one dps
    cases rp_int d
    exact ⟨j, rfl, hj.1, hj.2, q F1 H1 _ k1 e1 (yl_rng 0 j.toNat)⟩
end
/-! ### enumerate -/
/-- the tuple at a, each item in a new pair -/
def ItE (K : PySem.W.Frag) (a : Addr) : It where
  go := fun i H => ∃ (xs : List V) (x : V), SqT K H a xs ∧ xs[i]? = some x
  yld := fun i H v H' => ∃ T x, v = .ref T ∧ H T = none ∧ H' = upd H T (.tup [.int (i : Nat), x]) ∧ ∀ xs, SqT K H a xs → xs[i]? = some x
  stop := fun i H => ∃ xs : List V, SqT K H a xs ∧ xs.length ≤ i
theorem turn_en {P : Program} {w : World} {K : PySem.W.Frag} {elts : List Expr} {kk : Nat} {tpos : Pos} (a q it : Addr) :
    Turn P w K (.Tuple elts kk tpos) (ItE K a) [q, it] q (fun i h => (∃ old, IsEnum h q it ((i : Nat) : Int) old) ∧ h.IsTupleIter it a i ∧ q ≠ it ∧ a ≠ it ∧ a ≠ q) where
  mem := List.mem_cons_self
  obj := fun i h hst b hb => by
    obtain ⟨⟨old, h1⟩, ⟨o, h2, h3, h4⟩, _⟩ := hst
    rcases List.mem_cons.mp hb with rfl | hb
    · exact ⟨_, h1, fun v z => nomatch z⟩
    · rw [List.mem_singleton.mp hb]
      exact ⟨o, h2, fun v z => by rw [h4] at z; cases z⟩
  keep := fun i h h' hst kp => by
    obtain ⟨⟨old, h1⟩, h2, h3⟩ := hst
    exact ⟨⟨old, kp q List.mem_cons_self _ h1⟩, h2.at fun o z => kp it (List.mem_cons_of_mem _ (List.mem_singleton.mpr rfl)) o z, h3⟩
  item := by
    intro X hP hw hK hc i pins s st H E I hf hst hg
    subst hP hw hK
    obtain ⟨⟨old, h1⟩, h2, h3, h4, h5⟩ := hst
    obtain ⟨xs, x, hq, hx⟩ := hg
    obtain ⟨us, rv, ht, hz⟩ := I.tuple hq
    obtain ⟨u, hu, ru⟩ := rv.get hx
    have lq : q < s.heap.objs.size := Heap.lt_size h1
    have li : it < s.heap.objs.size := by
      obtain ⟨o, z, _⟩ := h2
      exact Heap.lt_size z
    have dr : Draws X.prog X.w X.A.in1 it [it, a] us.toArray.size (fun i v => us.toArray[i]? = some v) (fun i h => h.IsTupleIter it a i ∧ h.IsTuple a us.toArray) := Draws.tuple (A := X.A.in1) (show X.A.in1.handled = none from I.ok.hd hc) it a h4 us.toArray
    have hlt : i < us.toArray.size := by
      have := (List.getElem?_eq_some_iff.mp hu).1
      simpa using this
    have nq : q ∉ [it, a] := fun z => by
      rcases List.mem_cons.mp z with z | z
      · exact h3 z
      · exact h5 (List.mem_singleton.mp z).symm
    refine wpAny_pyNext_enum_itemD dr h1 ⟨h2, ht⟩ hlt h3 nq fun y h' tk hy out hs' hT hsz hk => ?_
    have ey : y = u := by
      have z : us.toArray[i]? = some y := hy
      rw [show us.toArray[i]? = us[i]? by simp, hu] at z
      cases z
      rfl
    subst ey
    refine ⟨_, rfl, wpAny_letOwnedTupleGo_enum (s := { s with heap := h', toks := tk + 1 }) out fun h2' hen sb => ?_⟩
    have hT2 : h2'.get? s.heap.objs.size = some { cls := .type "tuple", data := .seq #[.int i tk, y] } := (sb.2 _ (Nat.ne_of_gt lq)).trans hT
    have new : ObjOk X.prog X.w (upd H s.heap.objs.size (.tup [.int (i : Nat), x])) h2' s.heap.objs.size (.tup [.int (i : Nat), x]) := by
      refine ⟨?_, [.int i tk, y], .cons ⟨_, rfl⟩ (.cons ru .nil), ⟨_, hT2, rfl, _, rfl⟩⟩
      show 2 ≤ sizeLine
      decide
    have kp : ∀ b o, b ∉ [q, it] → s.heap.get? b = some o → h2'.get? b = some o := fun b o hb z => by
      have b1 : b ≠ q := fun z => hb (by rw [z]; exact List.mem_cons_self)
      have b2 : b ≠ it := fun z => hb (by rw [z]; exact List.mem_cons_of_mem _ (List.mem_singleton.mpr rfl))
      exact (sb.2 b b1).trans (hk b o b1 b2 z)
    have J := I.turnedNew (t' := tk + 1) kp hf (Nat.le_refl _) new
    refine ⟨.ref s.heap.objs.size, _, J, rfl, ⟨_, x, rfl, I.hok.fresh (Nat.le_refl _), rfl, fun ys hy2 => by rw [I.tuple_inj hy2 hq]; exact hx⟩, ⟨⟨y, ?_⟩, ?_, h3, h4, h5⟩, fun b hb => ?_⟩
    · rw [show ((i + 1 : Nat) : Int) = (i : Int) + 1 by omega]
      exact hen
    · exact hs'.1.at fun o z => (sb.2 it (Ne.symm h3)).trans z
    · have lb : b < s.heap.objs.size := by
        rcases List.mem_cons.mp hb with z | z
        · rw [z]
          exact lq
        · rw [List.mem_singleton.mp z]
          exact li
      rw [upd_ne (Nat.ne_of_lt lb)]
      exact (hf b hb).1
  done := by
    intro X hP hw hK hc i pins s st H E I hf hst hg
    subst hP hw hK
    obtain ⟨⟨old, h1⟩, h2, h3, h4, h5⟩ := hst
    obtain ⟨xs, hq, hx⟩ := hg
    obtain ⟨us, rv, ht, hz⟩ := I.tuple hq
    obtain ⟨f0, f1, f2, f3, f4, f5⟩ := hf it (List.mem_cons_of_mem _ (List.mem_singleton.mpr rfl))
    have hl := rv.length
    have hT : s.TypeIs (.ref q) "enumerate" := ⟨_, h1, rfl⟩
    unfold pyNext
    refine wpAny_bind (wpAny_attempt (wpAny_callSpecial?_slot (name := Str.ofString "__next__") hT F.slot_enumerate_next (wpAny_call_entry F.slot_enumerate_next hT F.entry_enumerate_next ?_ (F.args_enumerate_next_1 _))))
    show wpAny _ _ (field (.ref q) 2 >>= _) _ _ _
    refine wpAny_bind (wpAny_field h1 rfl (x := .ref it) rfl ?_)
    refine wpAny_bind (wpAny_nextOf_tuple_end (I.ok.hd hc) h2 ht (by simp; omega) fun h' x he' hx' => ?_)
    obtain ⟨o, ho, hcl⟩ := hx'
    refine wpAny_bind (wpAny_isInstance (T := "StopIteration") (b := true) ⟨o, ho, hcl⟩ isSubtype_stop ?_)
    exact wpAny_pure ⟨rfl, I.turned (t' := s.toks) (fun b o hb z => he' b o hb z) f0 f1 f3 f4 f5⟩
  self := fun A i s Q E hst h => by
    obtain ⟨⟨_, h1⟩, _⟩ := hst
    exact wpAny_pyIter_enum h1 h
end Pu
namespace Pu
open PySem PySem.Spec PyProof.Rows L2 RZ
variable [TabT]
set_option maxHeartbeats 1000000 in
theorem meets_en1 {v : Value} {o : Obj} {Hh : Heap → Prop} (B : Begins v o Hh) : Meets (Builtin.«enumerate.__new__» ⟨[.type "enumerate", v], []⟩) (fun _ R s => Hh s.heap ∧
    R (.ok (.ret (.ref (s.heap.push o).objs.size))) { s with heap := (s.heap.push o).push { cls := .type "enumerate", data := .fields #[.none, .bool false, .ref s.heap.objs.size, rawInt 0, .none, .none] } }) :=
  .of_wp fun prog w A R s h => by
    obtain ⟨hp, gg, dd, tk, os⟩ := s
    obtain ⟨h1, h⟩ := h
    have hsub := sub_enumerate
    have q1 : ∀ {A' : Around} {E : Value → Shared → Prop} {Q : Value → Shared → Prop}, Q (.ref hp.objs.size) ⟨hp.push o, gg, dd, tk, os⟩ → wpAny (model prog w) A' (pyIter v) Q E ⟨hp, gg, dd, tk, os⟩ :=
      fun q => B.iter prog w _ _ ⟨hp, gg, dd, tk, os⟩ _ h1 q
    wp_walk using q1
    refine wpAny_stack_any fun sk => wpAny_pure ?_
    split
    · rename_i cc _ _ _ _ _
      cases (cc == Value.type "enumerate")
      · wp_walk using q1
        exact ⟨_, rfl, h⟩
      · wp_walk using q1
        exact ⟨_, rfl, h⟩
    · wp_walk using q1
      exact ⟨_, rfl, h⟩
theorem call_en {prog : Program} {w : World} {A : Around} {E : Value → Shared → Prop} {s : Shared} {v : Value} {o : Obj} {Hh : Heap → Prop} {Q : Value → Shared → Prop} (B : Begins v o Hh) (h1 : Hh s.heap)
    (h : ∀ h', IsEnum h' (s.heap.objs.size + 1) s.heap.objs.size 0 .none → h'.get? s.heap.objs.size = some o → (∀ b o, s.heap.get? b = some o → h'.get? b = some o) → Q (.ref (s.heap.objs.size + 1)) { s with heap := h' }) :
    wpAny (model prog w) A (call (.type "enumerate") [v]) Q E s := by
  refine callType_new F.called_enumerate (by decide) (F.typeCall_enumerate_1 _) (F.newCall_enumerate_1 _) (fun obj => F.args_object_init_2 obj _) F.entry_enumerate_new (meets_en1 B) ⟨h1, ?_⟩
  have hz : (s.heap.push o).objs.size = s.heap.objs.size + 1 := Heap.size_push ..
  show _ ∧ _
  rw [hz]
  have he : IsEnum ((s.heap.push o).push { cls := .type "enumerate", data := .fields #[.none, .bool false, .ref s.heap.objs.size, rawInt 0, .none, .none] }) (s.heap.objs.size + 1) s.heap.objs.size 0 .none := by
    have z := Heap.get?_push_size (s.heap.push o) (o := { cls := .type "enumerate", data := .fields #[.none, .bool false, .ref s.heap.objs.size, rawInt 0, .none, .none] }) rfl
    rw [hz] at z
    exact z
  exact ⟨⟨_, he, rfl⟩, h _ he (Heap.get?_push_of_some _ (Heap.get?_push_size _ B.free)) fun b o x => Heap.get?_push_of_some _ (Heap.get?_push_of_some _ x)⟩
def iEnT (K : PySem.W.Frag) (ta : TA) : TI := fun st H R => ta st H fun vs H1 => ∃ a xs, vs = [.ref a] ∧ SqT K H1 a xs ∧ R (ItE K a) H1
theorem pi_enT {X : Cx} {e : Expr} {ta : TA} {p pos tpos : Pos} {elts : List Expr} {kk : Nat} (hg : Gl X "enumerate") (hm : X.mg "enumerate" = none) (ha : PA X [e] ta) (hs : starEach [e] X.env = [(false, eval e X.env)] := by rfl) :
    PI X (.Tuple elts kk tpos) (.Call (.Name "enumerate" p) [e] [] pos) (iEnT X.K ta) := by
  refine ⟨fun pins s st H R I h => ?_⟩
  refine Call_ (ld_blt I hg hm boot_enumerate (PyProof.Rows.callWith_type1 (thn (ha.run pos pins s st H _ I h) fun us s1 hh => ?_) hs rfl))
  obtain ⟨vs, H1, I1, r1, a, xs, ex, hq, q⟩ := hh
  subst ex
  cases r1 with
  | cons ra rr =>
    cases rr
    cases ra
    obtain ⟨its, rv, ht, hz⟩ := I1.tuple hq
    have la : a < s1.heap.objs.size := ht.lt
    refine call_en (begins_tuple a its.toArray) ht fun h' hen hit kp => wpAny_pyIter_enum hen ?_
    have I2 : Inv X pins st H1 { s1 with heap := h' } := I1.kept (t' := s1.toks) kp
    refine ⟨s1.heap.objs.size + 1, [s1.heap.objs.size + 1, s1.heap.objs.size], _, _, H1, rfl, I2, turn_en a (s1.heap.objs.size + 1) s1.heap.objs.size, ⟨⟨.none, hen⟩, ⟨_, hit, rfl, rfl⟩, Nat.succ_ne_self _, Nat.ne_of_lt la, Nat.ne_of_lt (Nat.lt_succ_of_lt la)⟩, fun b hb => ?_, q⟩
    have lb : s1.heap.objs.size ≤ b := by
      rcases List.mem_cons.mp hb with z | z
      · rw [z]
        exact Nat.le_succ _
      · rw [List.mem_singleton.mp z]
        exact Nat.le_refl _
    exact I1.fpOk lb (I1.hok.fresh lb)
/-- the pairs (k, d) -/
def enF : Nat → List D → List D
  | _, [] => []
  | k, d :: ds => .tuple [.int (k : Nat), d] :: enF (k + 1) ds
theorem enF_len : ∀ (k : Nat) (ds : List D), (enF k ds).length = ds.length
  | _, [] => rfl
  | k, d :: ds => congrArg Nat.succ (enF_len (k + 1) ds)
theorem enF_get : ∀ (k : Nat) (ds : List D) (i : Nat), (enF k ds)[i]? = (ds[i]?).map fun d => .tuple [.int ((k + i : Nat) : Int), d]
  | _, [], _ => rfl
  | k, d :: ds, 0 => rfl
  | k, d :: ds, i + 1 => by
    show (enF (k + 1) ds)[i]? = (ds[i]?).map _
    rw [enF_get (k + 1) ds i, show k + 1 + i = k + (i + 1) by omega]
def enOf : List D → Option (List D)
  | [d] => (seqOf d).map (enF 0)
  | _ => none
theorem enF_some {ds : List D} {i : Nat} {d : D} (h : (enF 0 ds)[i]? = some d) : ∃ x, ds[i]? = some x ∧ d = .tuple [.int (i : Nat), x] := by
  rw [enF_get, Nat.zero_add] at h
  cases hd : ds[i]? with
  | none =>
    rw [hd] at h
    cases h
  | some x =>
    rw [hd] at h
    cases h
    exact ⟨x, rfl, rfl⟩
theorem yl_enL {K : PySem.W.Frag} {F : Hp} {a : Addr} {vs : List V} {ds : List D} (h : SqL K F a vs) (hr : RpAll K F vs ds) : Yl K F (Ite K a) (enF 0 ds) where
  go := fun i H hi e => by
    rw [enF_len] at hi
    have hl := dpa_len hr
    exact ⟨vs, vs[i]'(by omega), e.l h, List.getElem?_eq_getElem (by omega)⟩
  stop := fun H e => ⟨vs, e.l h, by rw [enF_len, dpa_len hr]; exact Nat.le_refl _⟩
  yld := fun i H x H' d hd e hy => by
    obtain ⟨T, y, rfl, nT, rfl, q⟩ := hy
    obtain ⟨dx, h1, rfl⟩ := enF_some hd
    obtain ⟨v, h2, h3⟩ := dpa_get hr h1
    have z := q vs (e.l h)
    rw [h2] at z
    cases z
    exact .inr ⟨T, _, _, rfl, nT, rfl, rfl, .cons (.int _) (.cons h3 .nil)⟩
theorem yl_enT {K : PySem.W.Frag} {F : Hp} {a : Addr} {vs : List V} {ds : List D} (h : SqT K F a vs) (hr : RpAll K F vs ds) : Yl K F (ItE K a) (enF 0 ds) where
  go := fun i H hi e => by
    rw [enF_len] at hi
    have hl := dpa_len hr
    exact ⟨vs, vs[i]'(by omega), e.t h, List.getElem?_eq_getElem (by omega)⟩
  stop := fun H e => ⟨vs, e.t h, by rw [enF_len, dpa_len hr]; exact Nat.le_refl _⟩
  yld := fun i H x H' d hd e hy => by
    obtain ⟨T, y, rfl, nT, rfl, q⟩ := hy
    obtain ⟨dx, h1, rfl⟩ := enF_some hd
    obtain ⟨v, h2, h3⟩ := dpa_get hr h1
    have z := q vs (e.t h)
    rw [h2] at z
    cases z
    exact .inr ⟨T, _, _, rfl, nT, rfl, rfl, .cons (.int _) (.cons h3 .nil)⟩
section
variable {X : Cx} {c : Cc}
theorem i_enum {e : Expr} {ms : M (List D)} {p pos tpos : Pos} {elts : List Expr} {kk : Nat} (ha : PA X [e] (tA c ms)) (hm : X.mg "enumerate" = none) (hK : c.K = X.K := by rfl) (hg : Gl X "enumerate" := by rfl) (hs : starEach [e] X.env = [(false, eval e X.env)] := by rfl) :
    PI X (.Tuple elts kk tpos) (.Call (.Name "enumerate" p) [e] [] pos) (iM c (iBy enOf ms)) :=
  pi_cq (pi_or (pi_enum hg hm ha hs) (pi_enT hg hm ha hs)) fun st H R ⟨pa, H0, F0, F, r, ok, po⟩ => by
    have po : Po (XW c pa H0 F0 F) ((ms r).bind fun ds => M.opt (enOf ds)) _ := po
    cases hm : ms r with
    | no =>
      rw [hm] at po
      exact po.elim
    | ex e r1 =>
      rw [hm] at po
      exact .inl ⟨pa, H0, F0, F, r, ok, by rw [hm]; exact po⟩
    | ok ds r1 =>
      rw [hm] at po
      obtain ⟨xs, hx, q⟩ := opt_po (show Po (XW c pa H0 F0 F) (M.opt (enOf ds) r1) _ from po)
      unfold enOf at hx
      split at hx
      · rename_i d
        cases d with
        | list ys =>
          cases hx
          refine .inl ⟨pa, H0, F0, F, r, ok, ?_⟩
          rw [hm]
          intro F' H' vs k e dps
          obtain ⟨v, rfl, dp⟩ := rpa_one dps
          cases dp with
          | @lst a us _ h1 h2 => exact ⟨a, us, rfl, by rw [← hK]; exact k.fH.l h1, q F' H' _ k e (by rw [← hK]; exact yl_enL h1 h2)⟩
        | tuple ys =>
          cases hx
          refine .inr ⟨pa, H0, F0, F, r, ok, ?_⟩
          rw [hm]
          intro F' H' vs k e dps
          obtain ⟨v, rfl, dp⟩ := rpa_one dps
          cases dp with
          | @tup a us _ h1 h2 => exact ⟨a, us, rfl, by rw [← hK]; exact k.fH.t h1, q F' H' _ k e (by rw [← hK]; exact yl_enT h1 h2)⟩
        | _ => cases hx
      · cases hx
/-! zip of two lists, of two tuples -/
def zipD (xs ys : List D) : List D := List.zipWith (fun x y => .tuple [x, y]) xs ys
def zipOf : List D → Option (List D)
  | [.list xs, .list ys] => some (zipD xs ys)
  | [.tuple xs, .tuple ys] => some (zipD xs ys)
  | _ => none
theorem zipD_some {xs ys : List D} {i : Nat} {d : D} (h : (zipD xs ys)[i]? = some d) : ∃ x y, xs[i]? = some x ∧ ys[i]? = some y ∧ d = .tuple [x, y] := by
  unfold zipD at h
  rw [List.getElem?_zipWith] at h
  cases h1 : xs[i]? with
  | none =>
    rw [h1] at h
    cases h
  | some x =>
    cases h2 : ys[i]? with
    | none =>
      rw [h1, h2] at h
      cases h
    | some y =>
      rw [h1, h2] at h
      cases h
      exact ⟨x, y, rfl, rfl, rfl⟩
theorem zipD_len (xs ys : List D) : (zipD xs ys).length = min xs.length ys.length := List.length_zipWith
theorem yl_zipL {K : PySem.W.Frag} {F : Hp} {a b : Addr} {vs ws : List V} {ds es : List D} (h : SqL K F a vs) (hr : RpAll K F vs ds) (h' : SqL K F b ws) (hr' : RpAll K F ws es) : Yl K F (Itz K a b) (zipD ds es) where
  go := fun i H hi e => by
    rw [zipD_len] at hi
    have hl := dpa_len hr
    have hl' := dpa_len hr'
    exact ⟨vs, ws, vs[i]'(by omega), ws[i]'(by omega), e.l h, e.l h', List.getElem?_eq_getElem (by omega), List.getElem?_eq_getElem (by omega)⟩
  stop := fun H e => ⟨vs, ws, e.l h, e.l h', by rw [zipD_len, dpa_len hr, dpa_len hr']; omega⟩
  yld := fun i H x H' d hd e hy => by
    obtain ⟨T, y1, y2, rfl, nT, rfl, q1, q2⟩ := hy
    obtain ⟨d1, d2, g1, g2, rfl⟩ := zipD_some hd
    obtain ⟨v, h2, h3⟩ := dpa_get hr g1
    obtain ⟨w, h4, h5⟩ := dpa_get hr' g2
    have z1 := q1 vs (e.l h)
    have z2 := q2 ws (e.l h')
    rw [h2] at z1
    rw [h4] at z2
    cases z1
    cases z2
    exact .inr ⟨T, _, _, rfl, nT, rfl, rfl, .cons h3 (.cons h5 .nil)⟩
theorem yl_zipT {K : PySem.W.Frag} {F : Hp} {a b : Addr} {vs ws : List V} {ds es : List D} (h : SqT K F a vs) (hr : RpAll K F vs ds) (h' : SqT K F b ws) (hr' : RpAll K F ws es) : Yl K F (ItzT K a b) (zipD ds es) where
  go := fun i H hi e => by
    rw [zipD_len] at hi
    have hl := dpa_len hr
    have hl' := dpa_len hr'
    exact ⟨vs, ws, vs[i]'(by omega), ws[i]'(by omega), e.t h, e.t h', List.getElem?_eq_getElem (by omega), List.getElem?_eq_getElem (by omega)⟩
  stop := fun H e => ⟨vs, ws, e.t h, e.t h', by rw [zipD_len, dpa_len hr, dpa_len hr']; omega⟩
  yld := fun i H x H' d hd e hy => by
    obtain ⟨T, y1, y2, rfl, nT, rfl, q1, q2⟩ := hy
    obtain ⟨d1, d2, g1, g2, rfl⟩ := zipD_some hd
    obtain ⟨v, h2, h3⟩ := dpa_get hr g1
    obtain ⟨w, h4, h5⟩ := dpa_get hr' g2
    have z1 := q1 vs (e.t h)
    have z2 := q2 ws (e.t h')
    rw [h2] at z1
    rw [h4] at z2
    cases z1
    cases z2
    exact .inr ⟨T, _, _, rfl, nT, rfl, rfl, .cons h3 (.cons h5 .nil)⟩
theorem i_zip {e e2 : Expr} {ms : M (List D)} {p pos tpos : Pos} {elts : List Expr} {kk : Nat} (ha : PA X [e, e2] (tA c ms)) (hm : X.mg "zip" = none) (hK : c.K = X.K := by rfl) (hg : Gl X "zip" := by rfl) (hs : starEach [e, e2] X.env = (false, eval e X.env) :: starEach [e2] X.env := by rfl) (hpl : (backTo pos (starEach [e2] X.env)).any (·.1) = false := by rfl) :
    PI X (.Tuple elts kk tpos) (.Call (.Name "zip" p) [e, e2] [] pos) (iM c (iBy zipOf ms)) :=
  pi_cq (pi_zipA hg hm ha hs hpl) fun st H R ⟨pa, H0, F0, F, r, ok, po⟩ => seqA ok po fun ds r1 F1 H1 vs k1 e1 dps q => by
    obtain ⟨xs, hx, q⟩ := opt_po q
    unfold zipOf at hx
    split at hx
    · cases hx
      obtain ⟨v, w, rfl, d, d2⟩ := rpa_two dps
      cases d with
      | @lst a us _ h1 h2 =>
        cases d2 with
        | @lst b ws _ h3 h4 => exact ⟨a, b, us, ws, rfl, .inl ⟨by rw [← hK]; exact k1.fH.l h1, by rw [← hK]; exact k1.fH.l h3, q F1 H1 _ k1 e1 (by rw [← hK]; exact yl_zipL h1 h2 h3 h4)⟩⟩
    · cases hx
      obtain ⟨v, w, rfl, d, d2⟩ := rpa_two dps
      cases d with
      | @tup a us _ h1 h2 =>
        cases d2 with
        | @tup b ws _ h3 h4 => exact ⟨a, b, us, ws, rfl, .inr ⟨by rw [← hK]; exact k1.fH.t h1, by rw [← hK]; exact k1.fH.t h3, q F1 H1 _ k1 e1 (by rw [← hK]; exact yl_zipT h1 h2 h3 h4)⟩⟩
    · cases hx
end
/-! ### list comprehensions -/
def wipeE (r : En) : List Nat → En
  | [] => r
  | i :: is => (wipeE r is).set i .unk
/-- behind the block: the block's own slots as they were -/
def backE (r : En) (q : En) : List Nat → En
  | [] => q
  | i :: is => (backE r q is).set i (r.getD i .unk)
def noOwn (r : En) (is : List Nat) : Bool := is.all fun i => match r[i]? with
  | some s => s.own.isNone
  | none => false
def compL (is : List Nat) (tg : Tg) (tt : M Bool) (te : M D) : List D → List D → M (List D)
  | [], acc, r => .ok acc r
  | x :: xs, acc, r => match tg x (wipeE r is) with
    | none => .no
    | some r1 => match tt r1 with
      | .ok true r2 => (match te r2 with
        | .ok y r3 => if acc.length < 16777216 then compL is tg tt te xs (acc ++ [y]) r3 else .no
        | _ => .no)
      | .ok false r2 => compL is tg tt te xs acc r2
      | _ => .no
def oComp (src : M (List D)) (is : List Nat) (tg : Tg) (tt : M Bool) (te : M D) : M RV := src.bind fun xs r => if noOwn r is = true then (match compL is tg tt te xs [] r with
  | .ok ys q => .ok (.o (.l ys)) (backE r (wipeE q is) is)
  | _ => .no) else .no
def yes : M Bool := M.ret true
theorem wipe_get {st : L2.St} {j : Nat} : ∀ {is : List Nat}, (wipe st is)[j]? = if j ∈ is then (if j < st.length then some none else none) else st[j]?
  | [] => by simp [wipe]
  | i :: is => by
    unfold wipe
    by_cases e : i = j
    · subst e
      rw [if_pos (List.mem_cons_self), List.getElem?_set_self']
      by_cases hl : i < st.length
      · rw [if_pos hl, List.getElem?_eq_getElem (by rw [wipe_length]; exact hl)]
        rfl
      · rw [if_neg hl, List.getElem?_eq_none (by rw [wipe_length]; omega)]
        rfl
    · rw [List.getElem?_set_ne e, wipe_get (is := is)]
      have : (j ∈ i :: is) ↔ j ∈ is := by
        rw [List.mem_cons]
        exact ⟨fun h => h.elim (fun z => absurd z.symm e) id, .inr⟩
      by_cases hj : j ∈ is
      · rw [if_pos hj, if_pos (this.mpr hj)]
      · rw [if_neg hj, if_neg (fun z => hj (this.mp z))]
theorem wipeE_len (r : En) : ∀ is : List Nat, (wipeE r is).length = r.length
  | [] => rfl
  | i :: is => by
    unfold wipeE
    rw [List.length_set, wipeE_len r is]
theorem backE_len (r q : En) : ∀ is : List Nat, (backE r q is).length = q.length
  | [] => rfl
  | i :: is => by
    unfold backE
    rw [List.length_set, backE_len r q is]
theorem backE_get {r q : En} {j : Nat} : ∀ {is : List Nat}, (backE r q is)[j]? = if j ∈ is then (if j < q.length then some (r.getD j .unk) else none) else q[j]?
  | [] => by simp [backE]
  | i :: is => by
    unfold backE
    by_cases e : i = j
    · subst e
      rw [if_pos (List.mem_cons_self), List.getElem?_set_self']
      by_cases hl : i < q.length
      · rw [if_pos hl, List.getElem?_eq_getElem (by rw [backE_len]; exact hl)]
        rfl
      · rw [if_neg hl, List.getElem?_eq_none (by rw [backE_len]; omega)]
        rfl
    · rw [List.getElem?_set_ne e, backE_get (is := is)]
      have : (j ∈ i :: is) ↔ j ∈ is := by
        rw [List.mem_cons]
        exact ⟨fun h => h.elim (fun z => absurd z.symm e) id, .inr⟩
      by_cases hj : j ∈ is
      · rw [if_pos hj, if_pos (this.mpr hj)]
      · rw [if_neg hj, if_neg (fun z => hj (this.mp z))]
section
variable {K : PySem.W.Frag} {pa : Nat → Addr} {H0 F0 F H : Hp} {st : L2.St} {r : En}
omit [TabT] in
theorem Nob.wiped {a : Addr} (h : Nob H st r a) : ∀ is : List Nat, Nob H (wipe st is) (wipeE r is) a
  | [] => h
  | i :: is => (Nob.wiped h is).unk
theorem Ok.wiped (k : Ok K pa H0 F0 F H st r) : ∀ is : List Nat, Ok K pa H0 F0 F H (wipe st is) (wipeE r is)
  | [] => k
  | i :: is => (Ok.wiped k is).forget
/-- an object that is nobody's changes -/
theorem Ok.aside (k : Ok K pa H0 F0 F H st r) {p : Addr} {o : HO} (n0 : H0 p = none) (nF : F p = none) (nO : Nob H st r p) (tb : LamX.Tabs (TabT.T K) (upd H p o)) : Ok K pa H0 F0 F (upd H p o) st r where
  hH := k.hH.mut n0
  fF := k.fF
  fH := k.fH.mut nF
  sep := k.sep
  len := k.len
  sl := fun i s h n => by
    obtain ⟨v, h1, h2⟩ := k.sl i s h n
    refine ⟨v, h1, ?_⟩
    cases s with
    | unk => trivial
    | pin => exact h2
    | v d => exact h2
    | o ct =>
      obtain ⟨a, rfl, z1, z2, z3⟩ := h2
      obtain ⟨ne, ni⟩ := nO i _ ct a h rfl (by rw [h1])
      exact ⟨a, rfl, z1, z2, z3.mono (Ex.refl F) (upd_ne ne) fun b hb => upd_ne fun z => ni (z ▸ hb)⟩
    | io ct =>
      obtain ⟨rfl, z1, z2, z3⟩ := h2
      obtain ⟨ne, ni⟩ := nO i _ ct _ h rfl (by rw [h1])
      exact ⟨rfl, z1, z2, z3.mono (Ex.refl F) (upd_ne ne) fun b hb => upd_ne fun z => ni (z ▸ hb)⟩
  tb := tb
  dis := k.dis
  inn := fun i s c a b h1 h2 h3 h4 => by
    obtain ⟨f1, f2, f3⟩ := k.inn i s c a b h1 h2 h3 (h4.cg (upd_ne (nO i s c a h1 h2 h3).1).symm)
    exact ⟨f1, f2, fun j q c' a' g1 g2 g3 => by
      obtain ⟨y1, y2⟩ := f3 j q c' a' g1 g2 g3
      exact ⟨y1, fun nj n => y2 nj (n.cg (upd_ne (nO j q c' a' g1 g2 g3).1).symm)⟩⟩
/-- the block's end -/
theorem Ok.back (k : Ok K pa H0 F0 F H st r) {F' H' : Hp} {q : En} {is : List Nat} (hn : noOwn r is = true) (e : Ex F F') (k2 : Ok K pa H0 F0 F' H' (wipe st is) (wipeE q is)) : Ok K pa H0 F0 F' H' st (backE r (wipeE q is) is) := by
  have l1 : st.length = q.length := by
    have := k2.len
    rw [wipe_length, wipeE_len] at this
    exact this
  have l2 := k.len
  have own : ∀ (j : Nat) (s : Sl) (c : Ct), (backE r (wipeE q is) is)[j]? = some s → s.own = some c → j ∉ is ∧ (wipeE q is)[j]? = some s := fun j s c h hc => by
    rw [backE_get] at h
    by_cases hj : j ∈ is
    · rw [if_pos hj] at h
      have hz := List.all_eq_true.mp hn j hj
      split at h
      · cases h
        rw [List.getD_eq_getElem?_getD] at hc
        cases hr : r[j]? with
        | none =>
          rw [hr] at hz
          cases hz
        | some x =>
          rw [hr] at hz hc
          have hz : x.own.isNone = true := hz
          have hc : x.own = some c := hc
          rw [hc] at hz
          cases hz
      · cases h
    · rw [if_neg hj] at h
      exact ⟨hj, h⟩
  refine ⟨k2.hH, k2.fF, k2.fH, k2.sep, by rw [backE_len, wipeE_len]; exact l1, fun j s h n => ?_, k2.tb, fun i j s q2 c c' a ne h1 h2 o1 o2 s1 s2 => ?_, fun i s c a b h1 h2 h3 h4 => ?_⟩
  · by_cases hj : j ∈ is
    · rw [backE_get, if_pos hj] at h
      split at h
      · cases h
        rw [List.getD_eq_getElem?_getD] at n ⊢
        have hz := List.all_eq_true.mp hn j hj
        cases hr : r[j]? with
        | none =>
          rw [hr] at hz
          cases hz
        | some x =>
          rw [hr] at n
          have n : x ≠ .unk := n
          obtain ⟨v, z1, z2⟩ := k.sl j x hr n
          refine ⟨v, z1, ?_⟩
          rw [hr] at hz
          show SlOk K (pa j) H0 F' H' v x
          cases x with
          | unk => trivial
          | pin => exact z2
          | v d => exact dp_mono e z2
          | o ct => cases hz
          | io ct => cases hz
      · cases h
    · have h2 := h
      rw [backE_get, if_neg hj] at h2
      obtain ⟨v, z1, z2⟩ := k2.sl j s h2 n
      rw [wipe_get, if_neg hj] at z1
      exact ⟨v, z1, z2⟩
  · obtain ⟨g1, g2⟩ := own i s c h1 o1
    obtain ⟨g3, g4⟩ := own j q2 c' h2 o2
    exact k2.dis i j s q2 c c' a ne g2 g4 o1 o2 (by rw [wipe_get, if_neg g1]; exact s1) (by rw [wipe_get, if_neg g3]; exact s2)
  · obtain ⟨g1, g2⟩ := own i s c h1 h2
    obtain ⟨f1, f2, f3⟩ := k2.inn i s c a b g2 h2 (by rw [wipe_get, if_neg g1]; exact h3) h4
    refine ⟨f1, f2, fun j q2 c' a' w1 w2 w3 => ?_⟩
    obtain ⟨g3, g4⟩ := own j q2 c' w1 w2
    exact f3 j q2 c' a' g4 w2 (by rw [wipe_get, if_neg g3]; exact w3)
end
theorem wipe_eq {st st' : L2.St} {is : List Nat} (hl : st'.length = st.length) (h : ∀ j, j ∉ is → st'[j]? = (wipe st is)[j]?) : wipe st' is = wipe st is := by
  apply List.ext_getElem?
  intro j
  rw [wipe_get]
  by_cases hj : j ∈ is
  · rw [if_pos hj, wipe_get, if_pos hj, hl]
  · rw [if_neg hj, h j hj]
theorem compL_cons {is : List Nat} {tg : Tg} {tt : M Bool} {te : M D} {x : D} {xs acc ys : List D} {r q : En} (h : compL is tg tt te (x :: xs) acc r = .ok ys q) :
    ∃ r1, tg x (wipeE r is) = some r1 ∧ ((∃ r2 y r3, tt r1 = .ok true r2 ∧ te r2 = .ok y r3 ∧ acc.length < 16777216 ∧ compL is tg tt te xs (acc ++ [y]) r3 = .ok ys q) ∨ ∃ r2, tt r1 = .ok false r2 ∧ compL is tg tt te xs acc r2 = .ok ys q) := by
  unfold compL at h
  split at h
  · cases h
  · rename_i r1 h1
    refine ⟨r1, h1, ?_⟩
    split at h
    · rename_i r2 h2
      split at h
      · rename_i y r3 h3
        split at h
        · exact .inl ⟨r2, y, r3, h2, h3, by assumption, h⟩
        · cases h
      · cases h
    · rename_i r2 h2
      exact .inr ⟨r2, h2, h⟩
    · cases h
abbrev Cc.nox (c : Cc) : Cc := { c with W := fun _ _ _ _ => False }
section
variable {X : Cx} {c : Cc}
/-- the block's reading from the mirror -/
theorem lc_ok {src : M (List D)} {is js : List Nat} {t : Tg} {tt : M Bool} {te : M D} {st : L2.St} {H : Hp} {Q : VK} (hjs : ∀ j ∈ js, j ∈ is) (h : tO c (oComp src is t tt te) st H Q) :
    tLc (iM c src) (gM c.K js t) (tT c.nox tt) (tM c.nox te) is st H Q := by
  obtain ⟨pa, H0, F0, F, r, ok, po⟩ := h
  refine ⟨pa, H0, F0, F, r, ok, (Po.bind po).mono (fun _ _ x => x) fun xs r1 q F1 H1 J k1 e1 y Dd nD => ?_⟩
  by_cases hn : noOwn r1 is = true
  case neg =>
    rw [if_neg hn] at q
    exact q.elim
  rw [if_pos hn] at q
  cases hcl : compL is t tt te xs [] r1 with
  | no =>
    rw [hcl] at q
    exact q.elim
  | ex ee rr =>
    rw [hcl] at q
    exact q.elim
  | ok ys qe =>
    rw [hcl] at q
    have n0 : H0 Dd = none := k1.hH.nn nD
    have nF1 : F1 Dd = none := k1.fH.nn nD
    have nF0 : F0 Dd = none := k1.fF.nn nF1
    have kw := (k1.wiped is)
    refine ⟨fun i m H => i + m = xs.length ∧ ∃ F' q acc vs, Ok c.K pa H0 F0 F' H (wipe st is) (wipeE q is) ∧ Ex F1 F' ∧ H Dd = some (.lst vs) ∧ RpAll c.K F' vs acc ∧ F' Dd = none ∧ Nob H (wipe st is) (wipeE q is) Dd ∧ compL is t tt te (xs.drop i) acc q = .ok ys qe,
      ⟨xs.length, by omega, F1, r1, [], [], kw.aside n0 nF1 (kw.nobody nD) (tabs_new kw.tb nD), Ex.refl F1, upd_same, .nil, nF1, (kw.nobody nD).upd, hcl⟩, fun i m H hW => ?_⟩
    obtain ⟨hm, F', q', acc, vs, k, e, hD, hv, nF, nO, hc⟩ := hW
    by_cases hl : i < xs.length
    · have hx : xs[i]? = some xs[i] := List.getElem?_eq_getElem hl
      rw [drop_cons hx] at hc
      obtain ⟨r2, ht, hrest⟩ := compL_cons hc
      refine .inr ⟨y.go i H hl (e.trans k.fH), fun H2 => ∃ F' q acc vs, Ok c.K pa H0 F0 F' H2 (wipe st is) (wipeE q is) ∧ Ex F1 F' ∧ H2 Dd = some (.lst vs) ∧ RpAll c.K F' vs acc ∧ F' Dd = none ∧ Nob H2 (wipe st is) (wipeE q is) Dd ∧ compL is t tt te (xs.drop (i + 1)) acc q = .ok ys qe,
        fun H2 z => ⟨m - 1, by omega, by omega, z⟩, fun x H2 hy => ?_⟩
      -- the frame with the list that is made
      have kf : Ok c.K pa (upd H0 Dd (.lst vs)) F0 F' H (wipe st is) (wipeE q' is) := k.frame ⟨fun a o z nt => by
          by_cases ha : a = Dd
          · subst ha
            rw [upd_same] at z
            rw [hD]
            exact z
          · rw [upd_ne ha] at z
            exact k.hH.at_ a o z nt, fun a ps z => by
          by_cases ha : a = Dd
          · subst ha
            rw [upd_same] at z
            cases z
          · rw [upd_ne ha] at z
            exact k.hH.tb a ps z⟩ (fun a z1 z2 => by
          by_cases ha : a = Dd
          · subst ha
            exact absurd nF z2
          · rw [upd_ne ha] at z1
            exact k.sep a z1 z2) (fun j s ct a hj hct hst => by
          obtain ⟨na, ni⟩ := nO j s ct a hj hct hst
          rw [upd_ne na]
          obtain ⟨a', g1, g2, g3, g4⟩ := k.ownd hj hct
          rw [hst] at g1
          cases g1
          exact ⟨g3, fun b hb => by
            have nb : b ≠ Dd := fun z => ni (z ▸ hb)
            rw [upd_ne nb]
            exact (k.inn j s ct a b hj hct hst hb).2.1⟩)
      obtain ⟨F2, k2, e2, dp2⟩ := y.step kf e hx hy
      -- back to the old frame
      have unframe : ∀ {F3 H3 : Hp} {st3 : L2.St} {r3 : En}, Ok c.K pa (upd H0 Dd (.lst vs)) F0 F3 H3 st3 r3 → Ok c.K pa H0 F0 F3 H3 st3 r3 ∧ H3 Dd = some (.lst vs) ∧ F3 Dd = none ∧ Nob H3 st3 r3 Dd := fun {F3 H3 st3 r3} k3 => by
        have h0 : Ex H0 (upd H0 Dd (.lst vs)) := Ex.new n0
        refine ⟨k3.frame (h0.trans k3.hH) (fun a z1 z2 => k3.sep a (by
          cases hz : H0 a with
          | none => exact absurd hz z1
          | some o => exact (h0.some hz).elim fun _ q => ne_none q) z2) (fun j s ct a hj hct hst => ?_), k3.hH.at_ Dd _ upd_same (fun ps z => nomatch z), none_of_not fun z => k3.sep Dd (ne_none upd_same) z nF0, fun j s ct a hj hct hst => ⟨?_, ?_⟩⟩
        · obtain ⟨a', g1, g2, g3, g4⟩ := k3.ownd hj hct
          rw [hst] at g1
          cases g1
          exact ⟨h0.nn g3, fun b hb => h0.nn (k3.inn j s ct a b hj hct hst hb).2.1⟩
        · obtain ⟨a', g1, g2, g3, g4⟩ := k3.ownd hj hct
          rw [hst] at g1
          cases g1
          intro z
          subst z
          rw [upd_same] at g3
          cases g3
        · intro z
          have g3 := (k3.inn j s ct a Dd hj hct hst z).2.1
          rw [upd_same] at g3
          cases g3
      refine ⟨pa, _, F0, F2, _, xs[i], r2, k2, dp2, ht, fun st3 k3 ag => ?_⟩
      have hw : wipe st3 is = wipe st is := wipe_eq (by rw [ag.1, wipe_length]) fun j hj => ag.2 j fun z => hj (hjs j z)
      refine ⟨hw, ?_⟩
      rcases hrest with ⟨r3, yv, r4, h1, h2, h3, h4⟩ | ⟨r3, h1, h4⟩
      · refine ⟨pa, _, F0, F2, r2, k3, ?_⟩
        rw [h1]
        intro F4 H4 k4 e4
        show tM c.nox te st3 H4 _
        refine ⟨pa, _, F0, F4, r3, k4, ?_⟩
        rw [h2]
        intro F5 H5 v k5 e5 dp5
        obtain ⟨k6, hD6, nF6, nO6⟩ := unframe k5
        refine ⟨vs, hD6, by rw [dpa_len hv, sizeLine_eq]; exact h3, F5, r4, acc ++ [yv], vs ++ [v], ?_, ((e.trans e2).trans e4).trans e5, upd_same, dpa_app (dpa_mono ((e2.trans e4).trans e5) hv) (.cons dp5 .nil), nF6, ?_, h4⟩
        · have k7 := (k6.aside n0 nF6 nO6 (o := .lst (vs ++ [v])) (tabs_lst k6.tb hD6)).wiped is
          rw [hw] at k7
          exact k7
        · rw [← hw]
          exact (nO6.wiped is).upd
      · refine ⟨pa, _, F0, F2, r2, k3, ?_⟩
        rw [h1]
        intro F4 H4 k4 e4
        obtain ⟨k6, hD6, nF6, nO6⟩ := unframe k4
        show ∃ F' q acc vs, _
        refine ⟨F4, r3, acc, vs, ?_, (e.trans e2).trans e4, hD6, dpa_mono (e2.trans e4) hv, nF6, ?_, h4⟩
        · have k7 := k6.wiped is
          rw [hw] at k7
          exact k7
        · rw [← hw]
          exact nO6.wiped is
    · have ei : i = xs.length := by omega
      subst ei
      rw [List.drop_length] at hc
      cases hc
      have kb := k1.back hn e k
      refine .inl ⟨y.stop H (e.trans k.fH), q F' H _ kb (e1.trans e) ⟨Dd, rfl, nF, n0, ⟨vs, hD, hv⟩, .l fun j s ct a hj hct hst => ?_⟩⟩
      rw [backE_get] at hj
      by_cases hji : j ∈ is
      · rw [if_pos hji] at hj
        split at hj
        · cases hj
          have hz := List.all_eq_true.mp hn j hji
          rw [List.getD_eq_getElem?_getD] at hct
          cases hr : r1[j]? with
          | none =>
            rw [hr] at hz
            cases hz
          | some x =>
            rw [hr] at hz hct
            have hz : x.own.isNone = true := hz
            have hct : x.own = some ct := hct
            rw [hct] at hz
            cases hz
        · cases hj
      · rw [if_neg hji] at hj
        exact nO j s ct a hj hct (by rw [wipe_get, if_neg hji]; exact hst)
theorem o_lc {elt tg iter : Expr} {ifs : List Expr} {scope : Scope} {own : List (Str × Nat)} {pos : Pos} {src : M (List D)} {js : List Nat} {t : Tg} {tt : M Bool} {te : M D} (hi : PI X tg iter (iM c src)) (ok : BlkOk X.N X.env.scope scope own)
    (hg : ∀ (s : Shared) (H : Hp) (C : Addr) (cl : List (Str × Addr)) (fp : List Addr), PG (X.blk s H scope (compEnvC scope cl C X.env) fp) tg (gM c.K js t)) (ht : ∀ (s : Shared) (H : Hp) (C : Addr) (cl : List (Str × Addr)) (fp : List Addr), PTs (X.blk s H scope (compEnvC scope cl C X.env) fp) ifs (tT c.nox tt))
    (he : ∀ (s : Shared) (H : Hp) (C : Addr) (cl : List (Str × Addr)) (fp : List Addr), PE (X.blk s H scope (compEnvC scope cl C X.env) fp) elt (tM c.nox te)) (hN : X.N.Nodup) (hjs : ∀ j ∈ js, j ∈ own.map (·.2) := by decide) (hc : X.calm = true := by rfl) (hs : ∀ x, foldedSetIterable iter X.env x = pure x := by intro _; rfl) :
    PE X (.ListComp elt [⟨tg, iter, ifs, 0⟩] scope pos) (tO c (oComp src (own.map (·.2)) t tt te)) :=
  pe_cq (pe_lc hc hN hi ok hg ht he hs) fun st H Q h => lc_ok hjs h
/-- x = [..] -/
theorem s_setLc {i : Nat} {y : Str} {py : Pos} {elt tg iter : Expr} {ifs : List Expr} {scope : Scope} {own : List (Str × Nat)} {pos spos : Pos} {src : M (List D)} {js : List Nat} {t : Tg} {tt : M Bool} {te : M D} (hi : PI X tg iter (iM c src)) (ok : BlkOk X.N X.env.scope scope own)
    (hg : ∀ (s : Shared) (H : Hp) (C : Addr) (cl : List (Str × Addr)) (fp : List Addr), PG (X.blk s H scope (compEnvC scope cl C X.env) fp) tg (gM c.K js t)) (ht : ∀ (s : Shared) (H : Hp) (C : Addr) (cl : List (Str × Addr)) (fp : List Addr), PTs (X.blk s H scope (compEnvC scope cl C X.env) fp) ifs (tT c.nox tt))
    (he : ∀ (s : Shared) (H : Hp) (C : Addr) (cl : List (Str × Addr)) (fp : List Addr), PE (X.blk s H scope (compEnvC scope cl C X.env) fp) elt (tM c.nox te)) (hN : X.N.Nodup) (hjs : ∀ j ∈ js, j ∈ own.map (·.2) := by decide) (hc : X.calm = true := by rfl) (hy : X.N[i]? = some y := by rfl) (hyl : X.env.scope.names.lookup y = some .local := by rfl)
    (hsw : swapsWith (.ListComp elt [⟨tg, iter, ifs, 0⟩] scope pos) (some (.Name y py)) spos.line X.env = pure true := by exact sw_true rfl rfl rfl (by decide +kernel)) (hs : ∀ x, foldedSetIterable iter X.env x = pure x := by intro _; rfl) :
    PS X (.Assign [.Name y py] (.ListComp elt [⟨tg, iter, ifs, 0⟩] scope pos) spos) (sM c (sSetO i (oComp src (own.map (·.2)) t tt te))) :=
  ps_cq (ps_setLc hc hN hy hyl hsw hi ok hg ht he hs) fun Dd st H ⟨pa, H0, F0, F, r, okk, po⟩ => lc_ok hjs (seqO okk po fun d r1 F1 H1 v k1 e1 dp q => by
    obtain ⟨q, hi⟩ := setM_po q
    exact q F1 H1 _ (k1.setRv hi dp) e1)
theorem ts_nil : PTs X [] (tT c yes) := ⟨fun pins s st H Q I h => (pts_nil (X := X)).run pins s st H Q I (by
  obtain ⟨pa, H0, F0, F, r, ok, po⟩ := h
  exact po F H ok (Ex.refl F))⟩
theorem ts_one {e : Expr} {m : M Bool} (h : PT X e (tT c m)) : PTs X [e] (tT c m) := pts_one h
end
end Pu
namespace Pu
open PySem PySem.Spec PyProof.Rows L2
variable [TabT]
/-! ### what a def promises -/
def ArgsOk (rs : List Sl) : Prop := ∀ s ∈ rs, (∃ d, s = .v d) ∨ ∃ ct, s = .io ct
def spG (K : PySem.W.Frag) (mg : Str → Option Value) (n : Nat) (f : List Sl → Re RV) : Sp := fun vs H Q E => vs.length = n ∧ ∃ pa Hk F rs, Ok K pa Hk F F H (vs.map some) rs ∧ ArgsOk rs ∧
  Po (fun e rs' => ∀ F' H' cls dd, Ok K pa Hk F F' H' (vs.map some) rs' → ExOk ⟨K, mg, fun _ _ _ _ => True⟩ F' H' e cls dd → E cls dd H') (f rs)
    fun rv rs' => ∀ F' H' v, Ok K pa Hk F F' H' (vs.map some) rs' → RvOk K Hk F' H' (vs.map some) rs' v rv → Q v H'
def backA : List Sl → En → Option (List Sl)
  | [], _ => some []
  | .io _ :: ss, .io ct :: q => (backA ss q).map fun z => .io ct :: z
  | .io _ :: _, _ => none
  | .pin :: _, _ => none
  | s :: ss, _ :: q => (backA ss q).map fun z => s :: z
  | _ :: _, [] => none
def backR {α : Type} (rs : List Sl) (x : Re α) : Re α := match x with
  | .ok a r => (match backA rs r with
    | some z => .ok a z
    | none => .no)
  | .ex e r => (match backA rs r with
    | some z => .ex e z
    | none => .no)
  | .no => .no
def flRv : M Fl → M RV := fun m r => match m r with
  | .ok (.rt rv) r => .ok rv r
  | .ok .nx r => .ok (.v .none) r
  | .ok _ _ => .no
  | .ex e r => .ex e r
  | .no => .no
/-- a def: n slots, its body -/
@[irreducible] def fnOf (n : Nat) (m : M Fl) : List Sl → Re RV := fun rs => backR rs (flRv m (rs ++ List.replicate (n - rs.length) .unk))
theorem backA_len : ∀ {rs : List Sl} {q : En} {z : List Sl}, backA rs q = some z → z.length = rs.length
  | [], _, _, h => by
    cases h
    rfl
  | .io _ :: ss, .io ct :: q, z, h => by
    have h : (backA ss q).map (fun z => Sl.io ct :: z) = some z := h
    cases hb : backA ss q with
    | none =>
      rw [hb] at h
      cases h
    | some y =>
      rw [hb] at h
      cases h
      exact congrArg Nat.succ (backA_len hb)
  | .io _ :: _, .unk :: _, _, h => by cases h
  | .io _ :: _, .v _ :: _, _, h => by cases h
  | .io _ :: _, .o _ :: _, _, h => by cases h
  | .io _ :: _, .pin :: _, _, h => by cases h
  | .io _ :: _, [], _, h => by cases h
  | .unk :: ss, _ :: q, z, h => by
    have h : (backA ss q).map (fun z => Sl.unk :: z) = some z := h
    cases hb : backA ss q with
    | none =>
      rw [hb] at h
      cases h
    | some y =>
      rw [hb] at h
      cases h
      exact congrArg Nat.succ (backA_len hb)
  | .v d :: ss, _ :: q, z, h => by
    have h : (backA ss q).map (fun z => Sl.v d :: z) = some z := h
    cases hb : backA ss q with
    | none =>
      rw [hb] at h
      cases h
    | some y =>
      rw [hb] at h
      cases h
      exact congrArg Nat.succ (backA_len hb)
  | .o d :: ss, _ :: q, z, h => by
    have h : (backA ss q).map (fun z => Sl.o d :: z) = some z := h
    cases hb : backA ss q with
    | none =>
      rw [hb] at h
      cases h
    | some y =>
      rw [hb] at h
      cases h
      exact congrArg Nat.succ (backA_len hb)
  | .unk :: _, [], _, h => by cases h
  | .pin :: _, _, _, h => by cases h
  | .v _ :: _, [], _, h => by cases h
  | .o _ :: _, [], _, h => by cases h
/-- place by place: the caller's object as it is now, all else as it was -/
theorem backA_get : ∀ {rs : List Sl} {q : En} {z : List Sl}, backA rs q = some z → ∀ (i : Nat) (s : Sl), z[i]? = some s → (∃ ct ct', rs[i]? = some (.io ct) ∧ s = .io ct' ∧ q[i]? = some (.io ct')) ∨ (rs[i]? = some s ∧ s.isIo = false)
  | [], _, _, h, i, s, hs => by
    cases h
    cases hs
  | .io c0 :: ss, .io ct :: q, z, h, i, s, hs => by
    have h : (backA ss q).map (fun z => Sl.io ct :: z) = some z := h
    cases hb : backA ss q with
    | none =>
      rw [hb] at h
      cases h
    | some y =>
      rw [hb] at h
      cases h
      cases i with
      | zero =>
        cases hs
        exact .inl ⟨c0, ct, rfl, rfl, rfl⟩
      | succ i => exact backA_get hb i s hs
  | .io _ :: _, .unk :: _, _, h, _, _, _ => by cases h
  | .io _ :: _, .v _ :: _, _, h, _, _, _ => by cases h
  | .io _ :: _, .o _ :: _, _, h, _, _, _ => by cases h
  | .io _ :: _, .pin :: _, _, h, _, _, _ => by cases h
  | .io _ :: _, [], _, h, _, _, _ => by cases h
  | .unk :: ss, _ :: q, z, h, i, s, hs => by
    have h : (backA ss q).map (fun z => Sl.unk :: z) = some z := h
    cases hb : backA ss q with
    | none =>
      rw [hb] at h
      cases h
    | some y =>
      rw [hb] at h
      cases h
      cases i with
      | zero =>
        cases hs
        exact .inr ⟨rfl, rfl⟩
      | succ i => exact backA_get hb i s hs
  | .v d :: ss, _ :: q, z, h, i, s, hs => by
    have h : (backA ss q).map (fun z => Sl.v d :: z) = some z := h
    cases hb : backA ss q with
    | none =>
      rw [hb] at h
      cases h
    | some y =>
      rw [hb] at h
      cases h
      cases i with
      | zero =>
        cases hs
        exact .inr ⟨rfl, rfl⟩
      | succ i => exact backA_get hb i s hs
  | .o d :: ss, _ :: q, z, h, i, s, hs => by
    have h : (backA ss q).map (fun z => Sl.o d :: z) = some z := h
    cases hb : backA ss q with
    | none =>
      rw [hb] at h
      cases h
    | some y =>
      rw [hb] at h
      cases h
      cases i with
      | zero =>
        cases hs
        exact .inr ⟨rfl, rfl⟩
      | succ i => exact backA_get hb i s hs
  | .unk :: _, [], _, h, _, _, _ => by cases h
  | .pin :: _, _, _, h, _, _, _ => by cases h
  | .v _ :: _, [], _, h, _, _, _ => by cases h
  | .o _ :: _, [], _, h, _, _, _ => by cases h
section
variable {K : PySem.W.Frag} {pa : Nat → Addr} {Hk F F' H H' : Hp} {vs : List V} {rs : List Sl} {st' : L2.St} {r' : En}
/-- the arguments behind the call -/
theorem Ok.ended (k : Ok K pa Hk F F H (vs.map some) rs) (ao : ArgsOk rs) (k' : Ok K pa Hk F F' H' st' r') {z : List Sl} (hz : backA rs r' = some z) : Ok K pa Hk F F' H' (vs.map some) z where
  hH := k'.hH
  fF := k'.fF
  fH := k'.fH
  sep := k'.sep
  len := by rw [k.len, backA_len hz]
  sl := fun i s hs n => by
    rcases backA_get hz i s hs with ⟨ct, ct', h1, rfl, h2⟩ | ⟨h1, h2⟩
    · obtain ⟨v, g1, g2⟩ := k.sl i _ h1 (fun z => nomatch z)
      obtain ⟨w, g3, g4⟩ := k'.sl i _ h2 (fun z => nomatch z)
      obtain ⟨rfl, _⟩ := g2
      obtain ⟨rfl, g5⟩ := g4
      exact ⟨_, g1, rfl, g5⟩
    · obtain ⟨v, g1, g2⟩ := k.sl i s h1 n
      refine ⟨v, g1, ?_⟩
      rcases ao s (List.mem_of_getElem? h1) with ⟨d, rfl⟩ | ⟨ct, rfl⟩
      · exact dp_mono k'.fF g2
      · cases h2
  tb := k'.tb
  dis := fun i j s q c c' a ne h1 h2 o1 o2 s1 s2 => by
    have orig : ∀ (j : Nat) (s : Sl) (c : Ct), z[j]? = some s → s.own = some c → ∃ s' c', rs[j]? = some s' ∧ s'.own = some c' := fun j s c hj hc => by
      rcases backA_get hz j s hj with ⟨ct, ct', h1, rfl, h2⟩ | ⟨h1, h2⟩
      · exact ⟨_, ct, h1, rfl⟩
      · exact ⟨s, c, h1, hc⟩
    obtain ⟨s', c1, g1, g2⟩ := orig i s c h1 o1
    obtain ⟨q', c2, g3, g4⟩ := orig j q c' h2 o2
    exact k.dis i j s' q' c1 c2 a ne g1 g3 g2 g4 s1 s2
  inn := fun i s c a b h1 h2 h3 h4 => by
    have now : ∀ (j : Nat) (s : Sl) (c : Ct) (a : Addr), z[j]? = some s → s.own = some c → (vs.map some)[j]? = some (some (.ref a)) → r'[j]? = some s ∧ st'[j]? = some (some (.ref a)) := fun j s c a hj hc hst => by
      rcases backA_get hz j s hj with ⟨ct, ct', h1, rfl, h2⟩ | ⟨h1, h2⟩
      · obtain ⟨v, g1, g2⟩ := k.sl j _ h1 (fun z => nomatch z)
        obtain ⟨w, g3, g4⟩ := k'.sl j _ h2 (fun z => nomatch z)
        obtain ⟨rfl, _⟩ := g2
        obtain ⟨rfl, g5⟩ := g4
        rw [g1] at hst
        cases hst
        exact ⟨h2, g3⟩
      · rcases ao s (List.mem_of_getElem? h1) with ⟨d, rfl⟩ | ⟨ct, rfl⟩
        · cases hc
        · cases h2
    obtain ⟨w1, w2⟩ := now i s c a h1 h2 h3
    obtain ⟨f1, f2, f3⟩ := k'.inn i s c a b w1 h2 w2 h4
    refine ⟨f1, f2, fun j q c' a' y1 y2 y3 => ?_⟩
    obtain ⟨w3, w4⟩ := now j q c' a' y1 y2 y3
    exact f3 j q c' a' w3 y2 w4
theorem RvOk.ended (k : Ok K pa Hk F F H (vs.map some) rs) (ao : ArgsOk rs) (k' : Ok K pa Hk F F' H' st' r') {z : List Sl} (hz : backA rs r' = some z) {v : V} {rv : RV} (h : RvOk K Hk F' H' st' r' v rv) : RvOk K Hk F' H' (vs.map some) z v rv := by
  cases rv with
  | v d => exact h
  | o ct =>
    obtain ⟨a, rfl, z1, z2, z3, z4⟩ := h
    have key : ∀ b, Nob H' st' r' b → Nob H' (vs.map some) z b := fun b hb i s c a hs hc hst => by
      rcases backA_get hz i s hs with ⟨ct0, ct', h1, rfl, h2⟩ | ⟨h1, h2⟩
      · obtain ⟨v, g1, g2⟩ := k.sl i _ h1 (fun z => nomatch z)
        obtain ⟨w, g3, g4⟩ := k'.sl i _ h2 (fun z => nomatch z)
        obtain ⟨rfl, _⟩ := g2
        obtain ⟨rfl, g5⟩ := g4
        rw [hst] at g1
        cases g1
        exact hb i _ c _ h2 hc g3
      · rcases ao s (List.mem_of_getElem? h1) with ⟨d, rfl⟩ | ⟨ct, rfl⟩
        · cases hc
        · cases h2
    exact ⟨a, rfl, z1, z2, z3, key a z4.1, fun b hb => by
      obtain ⟨g1, g2, g3, g4⟩ := z4.2 b hb
      exact ⟨g1, g2, g3, key b g4⟩⟩
/-- the slots at the start -/
theorem Ok.begin (k : Ok K pa Hk F F H (vs.map some) rs) (n : Nat) : Ok K pa Hk F F H (vs.map some ++ List.replicate n none) (rs ++ List.replicate n .unk) := by
  have hl : vs.length = rs.length := by
    have := k.len
    rw [List.length_map] at this
    exact this
  have get : ∀ (i : Nat) (s : Sl), (rs ++ List.replicate n Sl.unk)[i]? = some s → s ≠ .unk → rs[i]? = some s ∧ i < rs.length := fun i s h ne => by
    by_cases hi : i < rs.length
    · rw [List.getElem?_append_left hi] at h
      exact ⟨h, hi⟩
    · rw [List.getElem?_append_right (by omega), List.getElem?_replicate] at h
      split at h
      · cases h
        exact absurd rfl ne
      · cases h
  refine ⟨k.hH, k.fF, k.fH, k.sep, by simp [hl], fun i s h ne => ?_, k.tb, fun i j s q c c' a ne h1 h2 o1 o2 s1 s2 => ?_, fun i s c a b h1 h2 h3 h4 => ?_⟩
  · obtain ⟨h1, h2⟩ := get i s h ne
    obtain ⟨v, g1, g2⟩ := k.sl i s h1 ne
    exact ⟨v, by rw [List.getElem?_append_left (by rw [List.length_map]; omega)]; exact g1, g2⟩
  · obtain ⟨g1, l1⟩ := get i s h1 (by intro z; subst z; cases o1)
    obtain ⟨g2, l2⟩ := get j q h2 (by intro z; subst z; cases o2)
    rw [List.getElem?_append_left (by rw [List.length_map]; omega)] at s1 s2
    exact k.dis i j s q c c' a ne g1 g2 o1 o2 s1 s2
  · obtain ⟨g1, l1⟩ := get i s h1 (by intro z; subst z; cases h2)
    rw [List.getElem?_append_left (by rw [List.length_map]; omega)] at h3
    obtain ⟨f1, f2, f3⟩ := k.inn i s c a b g1 h2 h3 h4
    refine ⟨f1, f2, fun j q c' a' w1 w2 w3 => ?_⟩
    obtain ⟨g2, l2⟩ := get j q w1 (by intro z; subst z; cases w2)
    rw [List.getElem?_append_left (by rw [List.length_map]; omega)] at w3
    exact f3 j q c' a' g2 w2 w3
end
abbrev ccOf (K : PySem.W.Frag) (mg : Str → Option Value) (E : XK) : Cc := ⟨K, mg, fun cls d _ H => E cls d H⟩
/-! ### room, with no guard of a text under way -/
/-- a frame of a def: no generator -/
structure Tpe (env : Env) : Prop where
  gen : env.scope.isGenerator = false
  co : env.scope.isCoroutine = false
  bl : env.builtins = builtinsNs
  gl : env.globals = mainGlobals
/-- the room of a caller -/
structure RmC (k : Nat) (A : Around) : Prop where
  room : Room k A
  gd : A.guards = some []
  dl : A.depth + 3 * k + 150 < recursionLimit
structure Rm (k : Nat) (A : Around) : Prop where
  room : Room k A
  gd : A.guards = some []
  dl : A.depth + 3 * k + 150 < recursionLimit
  top : ∃ env l, A.frames = some (env :: l) ∧ Tpe env
omit [TabT] in
theorem Rm.c {k : Nat} {A : Around} (r : Rm k A) : RmC k A := ⟨r.room, r.gd, r.dl⟩
omit [TabT] in
theorem RmC.deeper {k : Nat} {A : Around} {l : List Env} (r : RmC (k + 1) A) (hf : A.frames = some l) (env : Env) (t : Tpe env) : Rm k (A.deeper env) :=
  ⟨r.room.deeper _, r.gd, by have := r.dl; show A.depth + 1 + 3 * k + 150 < _; omega, ⟨env, l, by show A.frames.map _ = _; rw [hf]; rfl, t⟩⟩
omit [TabT] in
theorem Rm.deeper {k : Nat} {A : Around} (r : Rm (k + 1) A) (env : Env) (t : Tpe env) : Rm k (A.deeper env) := by
  obtain ⟨e0, l, hf, _⟩ := r.top
  exact r.c.deeper hf env t
theorem Rm.mono {j k : Nat} {A : Around} (r : Rm k A) (h : j ≤ k) : Rm j A := ⟨r.room.mono h, r.gd, by have := r.dl; omega, r.top⟩
theorem Rm.units {k : Nat} {A : Around} (r : Rm k A) : A.units + 64 < cLine := r.room.units
theorem Rm.u1 {k : Nat} {A : Around} (r : Rm k A) : A.units + 1 < cLine := by
  have := r.room.units
  omega
theorem Rm.in65 {k : Nat} {A : Around} (r : Rm k A) : A.units + 65 < cLine := by
  have := r.room.un
  omega
theorem Rm.u150 {k : Nat} {A : Around} (r : Rm k A) : A.units + 150 < cLine := by
  have := r.room.un
  omega
/-- what the heap at the start is like, where a long division may go by a module -/
structure SeerK (P : Program) (base : Heap) : Prop where
  tree : P.given.tree = none
  ns : base.NoSeer
/-- what a def does, where no guard is under way -/
structure FnG (P : Program) (w : World) (K : PySem.W.Frag) (mg : Str → Option Value) (base : Heap) (k : Nat) (f : Addr) (fd : FuncData) (ps : List Str) (sp : Sp) : Prop where
  len : ∀ us H Q E, sp us H Q E → us.length = ps.length
  run : ∀ (A : Around) (ou : List Env) (s : Shared) (H : Hp) (ar : Args) (us : List Value) (xs : List V) (Q : VK) (E : XK), RmC k A → Env0 P w K mg base A ou s H → BindsTo s fd ar (ps.zip us) → Vals xs us → sp xs H Q E → codeAny (model P w) A (.call (.ref f) ar) (CR (L2.CX P w) ou P w H s Q E) s
/-- cdv is the code of the def at f -/
def CodeAt (K : PySem.W.Frag) (f : Addr) (cdv : Value) : Prop := ∃ oc od fd osl, K.lookup f = some ⟨oc, od, .func fd, osl⟩ ∧ fd.code = cdv
theorem fnG_of {P : Program} {w : World} {K : PySem.W.Frag} {mg : Str → Option Value} {base : Heap} {x qual : Str} {params : Arguments} {body : List Stmt} {scope : Scope} {f : Addr} {fd : FuncData} {N ps : List Str} {k : Nat} {sp : Sp}
    (F : FunD K x qual params body scope [] [] f fd) (S : FnScope N ps scope) (len : ∀ us H Q E, sp us H Q E → us.length = ps.length)
    (hB : ∀ (cdv : Value) (A : Around) (ou : List Env) (s : Shared) (H : Hp) (xs : List V) (Q : VK) (E : XK), CodeAt K f cdv → Rm k (A.deeper (envOfC qual scope s.heap.objs.size f cdv)) → sp xs H Q E → ∃ t, PSs (cxOf (L2.CX P w) P w K mg base N qual scope f cdv A ou s H E) body t ∧ t { nx := fun _ G => Q .non G, rt := Q } (start N xs) H) :
    FnG P w K mg base (k + 1) f fd ps sp := by
  obtain ⟨oc, od, dV, kV, doc, pm, an, cdv, ct, osl, rfl, lk, hcd, -, -⟩ := F.ex
  refine ⟨len, fun A ou s H ar us xs Q E hr e0 hb rv hsp => ?_⟩
  have inK : K.In s.heap := e0.mod.kin.keeps fun c o q => (e0.bs c o q).1
  have nol : s.heap.NoLimit := e0.mod.nolimit.keeps fun c o q => (e0.bs c o q).1
  have kinds : ∀ y ∈ ps.zip us, scope.names.lookup y.1 = some .local ∨ (scope.names.lookup y.1 = some .cell ∧ ((cellsFrom (s.heap.objs.size + 1) scope.names []).lookup y.1).isSome = true) := fun y hy => (S.par y.1 (List.of_mem_zip (a := y.1) (b := y.2) hy).1).imp id fun q => ⟨q, PySem.W.cellsFrom_some _ _ _ (.inl q)⟩
  refine codeAny_call_function hr.room.depth (inK _ _ lk) rfl S.co S.gen rfl (PySem.W.codeRec_of inK hcd) (hb _ _ _ _ ?_)
  refine wpAny_newFunctionEnv_cells S.kind kinds fun env he s1 z => ?_
  subst he
  refine ⟨nol.keeps z.toInCall.keep, codeAny_func ?_⟩
  obtain ⟨t, ht, hq⟩ := hB cdv A ou s H xs Q E ⟨_, _, _, _, lk, rfl⟩ (hr.deeper e0.frames _ ⟨S.gen, S.co, rfl, rfl⟩) hsp
  have st0 : Inv (cxOf (L2.CX P w) P w K mg base N qual scope f cdv A ou s H E) [] (start N xs) H s1 := inv_start S hr.room.hd e0 (len _ _ _ _ hsp) rv z
  refine wpAny_mono (ht.run [] s1 _ H _ st0 hq) (fun fl s2 h => ?_) fun _ _ h => h
  cases fl with
  | ret u =>
    obtain ⟨v, _, H2, J, rv2, q⟩ := h
    exact ⟨v, H2, J.os, J.bare, J.base, J.hok, rv2, q⟩
  | next =>
    obtain ⟨_, H2, J, q⟩ := h
    exact ⟨.non, H2, J.os, J.bare, J.base, J.hok, rfl, q⟩
  | brk => exact h.elim fun _ h => h.elim fun _ h => h.2.elim
  | cont => exact h.elim fun _ h => h.elim fun _ h => h.2.elim
section
variable {X : Cx} {k : Nat} {f : Addr} {fd : FuncData} {ps : List Str} {sp : Sp} {Ew : L2.St → XK} {x : Str} {p pos : Pos} {e : Expr} {es : List Expr} {t : TA}
def tCallG (sp : Sp) (Ew : L2.St → XK) (t : TA) : TE := fun st H Q => t st H fun xs H1 => sp xs H1 Q (Ew st)
theorem runG {pins : List (Addr × Obj)} {st : L2.St} {H : Hp} {s : Shared} {Q : VK} {us : List Value} {xs : List V} (F : FnG X.prog X.w X.K X.mg X.base k f fd ps sp) (hr : Rm k X.A) (hb : Binds X.K fd ps []) (hx : PassesAt (L2.CX X.prog X.w) X st (Ew st)) (I : Inv X pins st H s) (rv : Vals xs us) (h : sp xs H Q (Ew st)) :
    wpAny (model X.prog X.w) X.A (call (.ref f) us) (EP X pins st Q) X.xe s := by
  have hb2 := hb s us I.kIn
  rw [List.append_nil] at hb2
  refine wpAny_call (codeAny_mono (F.run X.A X.stack s H ⟨us, []⟩ us xs Q (Ew st) hr.c I.env0 (hb2 (by rw [← rv.length]; exact F.len _ _ _ _ h)) rv h) fun o s2 q => ?_)
  rcases o with er | fl
  · exact hx pins H s er s2 I q
  · cases fl with
    | ret u => exact I.after q
    | next => exact False.elim q
    | brk => exact False.elim q
    | cont => exact False.elim q
theorem pe_callG (F : FnG X.prog X.w X.K X.mg X.base k f fd ps sp) (hr : Rm k X.A) (hg : Gl X x) (hm : X.mg x = some (.ref f)) (hk : PySem.W.keepIn X.K (.ref f) = true) (hb : Binds X.K fd ps []) (hx : ∀ st, PassesAt (L2.CX X.prog X.w) X st (Ew st)) (ha : PA X (e :: es) t)
    (hdb : (x == ("__debug__" : Str)) = false := by decide) (he : starEach (e :: es) X.env = (false, eval e X.env) :: starEach es X.env := by rfl) (hpl : (backTo pos (starEach es X.env)).any (·.1) = false := by rfl) : PE X (.Call (.Name x p) (e :: es) [] pos) (tCallG sp Ew t) :=
  ⟨fun pins s st H Q I h => wpAny_Call_Name_kw (ld_glob I hg hm (PySem.W.callWith_K (h₀ := X.base) I.ok.mod.kin hk (thn (ha.run pos pins s st H _ I h) fun us s1 ⟨xs, H1, I1, rv, q⟩ => ⟨I1.kIn, runG F hr hb (hx st) I1 rv q⟩) he hpl) hdb)⟩
end
/-- a def keeps its promise -/
theorem mk_fnC {P : Program} {w : World} {K : PySem.W.Frag} {mg : Str → Option Value} {base : Heap} {x qual : Str} {params : Arguments} {body : List Stmt} {scope : Scope} {f : Addr} {fd : FuncData} {N ps : List Str} {k : Nat} {m : M Fl}
    (F : FunD K x qual params body scope [] [] f fd) (S : FnScope N ps scope)
    (hb : ∀ (cdv : Value), CodeAt K f cdv → ∀ (A : Around) (outer : List Env) (s : Shared) (H : Hp) (E : XK), Rm k (A.deeper (envOfC qual scope s.heap.objs.size f cdv)) → PSs (cxOf (L2.CX P w) P w K mg base N qual scope f cdv A outer s H E) body (sM (ccOf K mg E) m)) :
    FnG P w K mg base (k + 1) f fd ps (spG K mg ps.length (fnOf N.length m)) := by
  refine fnG_of F S (fun vs H Q E h => h.1) fun cdv A outer s H vs Q E hc hr h => ⟨_, hb cdv hc A outer s H E hr, ?_⟩
  obtain ⟨hl, pa, Hk, F1, rs, ok, ao, po⟩ := h
  have hlr : rs.length = vs.length := by
    have := ok.len
    rw [List.length_map] at this
    exact this.symm
  have ok2 := ok.begin (N.length - vs.length)
  show sM (ccOf K mg E) m _ (vs.map some ++ List.replicate (N.length - vs.length) none) H
  refine ⟨pa, Hk, F1, F1, rs ++ List.replicate (N.length - vs.length) .unk, ok2, ?_⟩
  rw [← hlr]
  unfold fnOf flRv at po
  cases hm : m (rs ++ List.replicate (N.length - rs.length) .unk) with
  | no =>
    rw [hm] at po
    exact po.elim
  | ex e r1 =>
    rw [hm] at po
    intro F' H' st' cls dd k' e' xo
    have po : Po _ (backR rs (.ex e r1)) _ := po
    unfold backR at po
    cases hz : backA rs r1 with
    | none =>
      have po : Po _ (match backA rs r1 with
        | some z => (.ex e z : Re RV)
        | none => .no) _ := po
      rw [hz] at po
      exact po.elim
    | some z =>
      have po : Po _ (match backA rs r1 with
        | some z => (.ex e z : Re RV)
        | none => .no) _ := po
      rw [hz] at po
      exact po F' H' cls dd (ok.ended ao k' hz) xo
  | ok fl r1 =>
    rw [hm] at po
    have fin : ∀ rv, Po (fun e rs' => ∀ F' H' cls dd, Ok K pa Hk F1 F' H' (vs.map some) rs' → ExOk ⟨K, mg, fun _ _ _ _ => True⟩ F' H' e cls dd → E cls dd H') (backR rs (.ok rv r1)) (fun rv rs' => ∀ F' H' v, Ok K pa Hk F1 F' H' (vs.map some) rs' → RvOk K Hk F' H' (vs.map some) rs' v rv → Q v H') →
        ∀ F' H' st' v, Ok K pa Hk F1 F' H' st' r1 → RvOk K Hk F' H' st' r1 v rv → Q v H' := fun rv po F' H' st' v k' hv => by
      have po : Po _ (match backA rs r1 with
        | some z => (.ok rv z : Re RV)
        | none => .no) _ := po
      cases hz : backA rs r1 with
      | none =>
        rw [hz] at po
        exact po.elim
      | some z =>
        rw [hz] at po
        exact po F' H' v (ok.ended ao k' hz) (RvOk.ended ok ao k' hz hv)
    cases fl with
    | nx => exact fun F' H' st' k' e' => fin (.v .none) po F' H' st' .non k' .non
    | bk => exact po.elim
    | ct => exact po.elim
    | rt rv => exact fun F' H' st' v k' e' hv => fin rv po F' H' st' v k' hv
theorem mk_fn {P : Program} {w : World} {K : PySem.W.Frag} {mg : Str → Option Value} {base : Heap} {x qual : Str} {params : Arguments} {body : List Stmt} {scope : Scope} {f : Addr} {fd : FuncData} {N ps : List Str} {k : Nat} {m : M Fl}
    (F : FunD K x qual params body scope [] [] f fd) (S : FnScope N ps scope)
    (hb : ∀ (cdv : Value) (A : Around) (outer : List Env) (s : Shared) (H : Hp) (E : XK), Rm k (A.deeper (envOfC qual scope s.heap.objs.size f cdv)) → PSs (cxOf (L2.CX P w) P w K mg base N qual scope f cdv A outer s H E) body (sM (ccOf K mg E) m)) :
    FnG P w K mg base (k + 1) f fd ps (spG K mg ps.length (fnOf N.length m)) := mk_fnC F S fun cdv _ => hb cdv
/-! ### calls -/
/-- the def x of the text, its mirror -/
structure Fn (P : Program) (w : World) (K : PySem.W.Frag) (mg : Str → Option Value) (base : Heap) (k : Nat) (x : Str) (n : Nat) (f : List Sl → Re RV) : Prop where
  ex : ∃ (a : Addr) (fd : FuncData) (ps : List Str), mg x = some (.ref a) ∧ PySem.W.keepIn K (.ref a) = true ∧ Binds K fd ps [] ∧ FnG P w K mg base k a fd ps (spG K mg n f)
def cCall (f : List Sl → Re RV) (ms : M (List D)) : M RV := ms.bind fun ds r => match f (ds.map .v) with
  | .ok rv _ => .ok rv r
  | .ex e _ => .ex e r
  | .no => .no
def getC (i : Nat) (r : En) : Option Ct := (r[i]?).bind Sl.own
def putC (i : Nat) (ct : Ct) (r : En) : En := match r[i]? with
  | some s => r.set i (s.put ct)
  | none => r
/-- f(x, ..): the object x is the callee's to change -/
def cCallI (i : Nat) (f : List Sl → Re RV) (ms : M (List D)) : M RV := fun r => match getC i r with
  | none => .no
  | some _ => (ms r).bind fun ds r => match getC i r with
    | some ct => (match f (.io ct :: ds.map .v) with
      | .ok rv (.io ct' :: _) => .ok rv (putC i ct' r)
      | .ex e (.io ct' :: _) => .ex e (putC i ct' r)
      | _ => .no)
    | none => .no
section
variable {K : PySem.W.Frag} {pa : Nat → Addr} {H0 F0 F H : Hp} {st : L2.St} {r : En}
theorem getC_some {i : Nat} {r : En} {ct : Ct} (h : getC i r = some ct) : ∃ s, r[i]? = some s ∧ s.own = some ct := by
  unfold getC at h
  cases e : r[i]? with
  | none =>
    rw [e] at h
    cases h
  | some s =>
    rw [e] at h
    exact ⟨s, rfl, h⟩
theorem Ok.putC (k : Ok K pa H0 F0 F H st r) {i : Nat} {c c' : Ct} {a : Addr} {o : HO} (h : getC i r = some c) (ha : st[i]? = some (some (.ref a))) (new : CtOk K F (upd H a o) a c')
    (newI : ∀ b, Inn (upd H a o) a c' b → Inn H a c b ∨ (F b = none ∧ H0 b = none ∧ a ≠ b ∧ Nob H st r b) := by intro b hb; first | exact (inn_l hb).elim | exact (inn_d hb).elim | exact (inn_t hb).elim) : Ok K pa H0 F0 F (upd H a o) st (putC i c' r) := by
  obtain ⟨s, h1, h2⟩ := getC_some h
  unfold Pu.putC
  rw [h1]
  exact k.put h1 h2 ha new newI
theorem argsV {vs : List V} {ds : List D} (hr : RpAll K F vs ds) (fh : Ex F H) (tb : LamX.Tabs (TabT.T K) H) : Ok K pa H F F H (vs.map some) (ds.map Sl.v) where
  hH := Ex.refl H
  fF := Ex.refl F
  fH := fh
  sep := fun _ _ h => h
  len := by rw [List.length_map, List.length_map, dpa_len hr]
  sl := fun i s h n => by
    rw [List.getElem?_map] at h
    cases hd : ds[i]? with
    | none =>
      rw [hd] at h
      cases h
    | some d =>
      rw [hd] at h
      cases h
      obtain ⟨v, h1, h2⟩ := dpa_get hr hd
      exact ⟨v, by rw [List.getElem?_map, h1]; rfl, h2⟩
  tb := tb
  dis := fun i j s q c c' a ne h1 h2 o1 => by
    rw [List.getElem?_map] at h1
    cases hd : ds[i]? with
    | none =>
      rw [hd] at h1
      cases h1
    | some d =>
      rw [hd] at h1
      cases h1
      cases o1
  inn := fun i s c a b h1 h2 => by
    rw [List.getElem?_map] at h1
    cases hd : ds[i]? with
    | none =>
      rw [hd] at h1
      cases h1
    | some d =>
      rw [hd] at h1
      cases h1
      cases h2
/-- what a callee made is nobody's here -/
theorem Ok.awayC (k : Ok K pa H0 F0 F H st r) {F' H' : Hp} {st' : L2.St} {r' : En} {a : Addr} {c : Ct} (e : Ex H H') (n : H a = none) (w : ∀ b, Inn H' a c b → F' b = none ∧ H b = none ∧ a ≠ b ∧ Nob H' st' r' b) : Away H0 F' H' st r a c := by
  have key : ∀ b, H b = none → Nob H' st r b := fun b hb => (k.nobody hb).cg fun i s c2 a2 h1 h2 h3 => by
    obtain ⟨a3, z1, z2, z3, z4⟩ := k.ownd h1 h2
    rw [h3] at z1
    cases z1
    obtain ⟨o, ho, hnt⟩ := z4.there'
    exact (e.at_ _ o ho hnt).trans ho.symm
  exact ⟨key a n, fun b hb => by
    obtain ⟨g1, g2, g3, g4⟩ := w b hb
    exact ⟨g1, k.hH.nn g2, g3, key b g2⟩⟩
theorem argsOkV (ds : List D) : ArgsOk (ds.map Sl.v) := fun s hs => by
  obtain ⟨d, _, rfl⟩ := List.mem_map.mp hs
  exact .inl ⟨d, rfl⟩
end
/-! ### objects lent to a callee -/
/-- b belongs to what is lent -/
def LentA (H : Hp) (st : L2.St) (r : En) (is : List Nat) (b : Addr) : Prop := ∃ i ∈ is, ∃ s c a, r[i]? = some s ∧ s.own = some c ∧ st[i]? = some (some (V.ref a)) ∧ (a = b ∨ Inn H a c b)
open Classical in
/-- the heap but for what is lent -/
noncomputable def Hless (H : Hp) (st : L2.St) (r : En) (is : List Nat) : Hp := fun b => if LentA H st r is b then none else H b
section
variable {K : PySem.W.Frag} {pa pa' : Nat → Addr} {H0 F0 F H F' H' : Hp} {st : L2.St} {r r' : En} {is : List Nat} {sv : L2.St} {rs' : List Sl}
omit [TabT] in
theorem Hless.at_ {b : Addr} (h : LentA H st r is b) : Hless H st r is b = none := if_pos h
omit [TabT] in
theorem Hless.ne {b : Addr} (h : ¬ LentA H st r is b) : Hless H st r is b = H b := if_neg h
omit [TabT] in
theorem Hless.ex : Ex (Hless H st r is) H := .of fun b o z => by
  by_cases h : LentA H st r is b
  · rw [Hless.at_ h] at z
    cases z
  · rw [Hless.ne h] at z
    exact z
theorem Ok.lentFree (k1 : Ok K pa H0 F0 F H st r) {b : Addr} (h : LentA H st r is b) : H0 b = none ∧ F b = none := by
  obtain ⟨i, _, s, c, a, h1, h2, h3, h4⟩ := h
  rcases h4 with rfl | h4
  · obtain ⟨a', z1, z2, z3, z4⟩ := k1.ownd h1 h2
    rw [h3] at z1
    cases z1
    exact ⟨z3, z2⟩
  · obtain ⟨f1, f2, _⟩ := k1.inn i s c a b h1 h2 h3 h4
    exact ⟨f2, f1⟩
theorem Ok.lentEx (k1 : Ok K pa H0 F0 F H st r) : Ex H0 (Hless H st r is) := ⟨fun b o z nt => by
  rw [Hless.ne fun h => by
    rw [(k1.lentFree h).1] at z
    cases z]
  exact k1.hH.at_ b o z nt, fun b ps z => by
  rw [Hless.ne fun h => by
    rw [(k1.lentFree h).1] at z
    cases z]
  exact k1.hH.tb b ps z⟩
/-- another slot's object is not lent -/
theorem Ok.notLent (k1 : Ok K pa H0 F0 F H st r) {j : Nat} {s : Sl} {c : Ct} {a b : Addr} (hj : j ∉ is) (h1 : r[j]? = some s) (h2 : s.own = some c) (h3 : st[j]? = some (some (.ref a))) (hb : a = b ∨ Inn H a c b) : ¬ LentA H st r is b := fun ⟨i, hi, s2, c2, a2, g1, g2, g3, g4⟩ => by
  have ne : j ≠ i := fun z => hj (z ▸ hi)
  rcases hb with rfl | hb
  · rcases g4 with rfl | g4
    · exact k1.dis j i s s2 c c2 a2 ne h1 g1 h2 g2 h3 g3
    · exact ((k1.inn i s2 c2 a2 a g1 g2 g3 g4).2.2 j s c a h1 h2 h3).1 rfl
  · obtain ⟨_, _, f3⟩ := k1.inn j s c a b h1 h2 h3 hb
    obtain ⟨y1, y2⟩ := f3 i s2 c2 a2 g1 g2 g3
    rcases g4 with rfl | g4
    · exact y1 rfl
    · exact y2 (fun z => ne z.symm) g4
/-- what stays of a slot that is not lent -/
theorem Ok.stays (k1 : Ok K pa H0 F0 F H st r) (k2 : Ok K pa' (Hless H st r is) F F' H' sv rs') {j : Nat} {s : Sl} {c : Ct} {a : Addr} (hj : j ∉ is) (h1 : r[j]? = some s) (h2 : s.own = some c) (h3 : st[j]? = some (some (.ref a))) :
    H' a = H a ∧ F' a = none ∧ CtOk K F' H' a c ∧ ∀ b, Inn H' a c b → Inn H a c b ∧ H' b = H b ∧ F' b = none := by
  obtain ⟨a', z1, z2, z3, z4⟩ := k1.ownd h1 h2
  rw [h3] at z1
  cases z1
  have same : ∀ b o, (a = b ∨ Inn H a c b) → H b = some o → (∀ ps, o ≠ .tbl ps) → F b = none → H' b = H b ∧ F' b = none := fun b o hb ho hnt hF => by
    have z : Hless H st r is b = some o := by
      rw [Hless.ne (k1.notLent hj h1 h2 h3 hb)]
      exact ho
    exact ⟨(k2.hH.at_ b o z hnt).trans ho.symm, none_of_not fun y => k2.sep b (ne_none z) y hF⟩
  obtain ⟨o, ho, hnt⟩ := z4.there'
  obtain ⟨e1, e2⟩ := same a o (.inl rfl) ho hnt z2
  have inn : ∀ b, Inn H a c b → H' b = H b ∧ F' b = none := fun b hb => by
    obtain ⟨ws, hw⟩ := z4.inn hb
    exact same b _ (.inr hb) hw (fun ps z => nomatch z) (k1.inn j s c a b h1 h2 h3 hb).1
  exact ⟨e1, e2, z4.mono k2.fF e1 fun b hb => (inn b hb).1, fun b hb => by
    have hb' := hb.cg e1.symm
    exact ⟨hb', inn b hb'⟩⟩
/-- the slots behind the call -/
def BackOk (st : L2.St) (r r' : En) (is : List Nat) (sv : L2.St) (rs' : List Sl) : Prop := r'.length = r.length ∧ ∀ (j : Nat) (s' : Sl), r'[j]? = some s' → (j ∉ is ∧ r[j]? = some s') ∨
  ∃ (p : Nat) (s : Sl) (ct ct' : Ct) (a : Addr), j ∈ is ∧ r[j]? = some s ∧ s.own = some ct ∧ st[j]? = some (some (V.ref a)) ∧ s' = s.put ct' ∧ rs'[p]? = some (Sl.io ct') ∧ sv[p]? = some (some (V.ref a))
theorem Ok.lent (k1 : Ok K pa H0 F0 F H st r) (k2 : Ok K pa' (Hless H st r is) F F' H' sv rs') (hb : BackOk st r r' is sv rs') : Ok K pa H0 F0 F' H' st r' := by
  have h0 := k1.lentEx (is := is)
  -- an owned slot behind the call
  have view : ∀ (j : Nat) (s' : Sl) (c' : Ct) (a : Addr), r'[j]? = some s' → s'.own = some c' → st[j]? = some (some (.ref a)) →
      (∃ s c, r[j]? = some s ∧ s.own = some c) ∧ ((j ∉ is ∧ r[j]? = some s') ∨ (j ∈ is ∧ ∃ p : Nat, sv[p]? = some (some (V.ref a)) ∧ rs'[p]? = some (Sl.io c'))) := fun j s' c' a h1 h2 h3 => by
    rcases hb.2 j s' h1 with ⟨hj, h⟩ | ⟨p, s, ct, ct', a', hj, g1, g2, g3, rfl, g5, g6⟩
    · exact ⟨⟨s', c', h, h2⟩, .inl ⟨hj, h⟩⟩
    · have e : (s.put ct').own = some ct' := by cases s <;> rfl
      rw [e] at h2
      cases h2
      rw [h3] at g3
      cases g3
      exact ⟨⟨s, ct, g1, g2⟩, .inr ⟨hj, p, g6, g5⟩⟩
  refine ⟨h0.trans k2.hH, k1.fF.trans k2.fF, k2.fH, fun b z1 z2 => k1.sep b z1 (k2.sep b (by
    cases hz : H0 b with
    | none => exact absurd hz z1
    | some o => exact (h0.some hz).elim fun _ q => ne_none q) z2), by rw [hb.1, k1.len], fun j s' h n => ?_, k2.tb, fun j1 j2 s1 s2 c1 c2 b ne h1 h2 o1 o2 st1 st2 => ?_, fun j s c a b h1 h2 h3 h4 => ?_⟩
  · rcases hb.2 j s' h with ⟨hj, hr⟩ | ⟨p, s, ct, ct', a, hj, g1, g2, g3, rfl, g5, g6⟩
    · obtain ⟨w, y1, y2⟩ := k1.sl j s' hr n
      refine ⟨w, y1, ?_⟩
      cases s' with
      | unk => trivial
      | pin => exact y2
      | v d => exact dp_mono k2.fF y2
      | o c1 =>
        obtain ⟨b, rfl, z1, z2, z3⟩ := y2
        obtain ⟨w1, w2, w3, _⟩ := k1.stays k2 hj hr rfl y1
        exact ⟨b, rfl, w2, z2, w3⟩
      | io c1 =>
        obtain ⟨rfl, z1, z2, z3⟩ := y2
        obtain ⟨w1, w2, w3, _⟩ := k1.stays k2 hj hr rfl y1
        exact ⟨rfl, w2, z2, w3⟩
    · refine ⟨_, g3, ?_⟩
      obtain ⟨v, w1, w2⟩ := k2.sl p _ g5 (fun z => nomatch z)
      rw [g6] at w1
      cases w1
      obtain ⟨w3, w4, w5, w6⟩ := w2
      have hb2 : H0 a = none := (k1.lentFree (is := is) ⟨j, hj, s, ct, a, g1, g2, g3, .inl rfl⟩).1
      cases w3
      cases s with
      | unk => cases g2
      | pin => cases g2
      | v d => cases g2
      | o c1 => exact ⟨_, rfl, w4, hb2, w6⟩
      | io c1 =>
        obtain ⟨w, y1, y2⟩ := k1.sl j _ g1 (fun z => nomatch z)
        obtain ⟨rfl, _⟩ := y2
        rw [g3] at y1
        have e : pa' p = pa j := by
          have := Option.some.inj (Option.some.inj y1)
          injection this
        rw [← e]
        exact ⟨rfl, w4, hb2, w6⟩
  · obtain ⟨⟨s3, c3, w1, w2⟩, _⟩ := view j1 s1 c1 b h1 o1 st1
    obtain ⟨⟨s4, c4, w3, w4⟩, _⟩ := view j2 s2 c2 b h2 o2 st2
    exact k1.dis j1 j2 s3 s4 c3 c4 b ne w1 w3 w2 w4 st1 st2
  · obtain ⟨⟨s3, c3, w1, w2⟩, hv⟩ := view j s c a h1 h2 h3
    -- what is within an object that is not lent is foreign to what came back
    rcases hv with ⟨hj, hr⟩ | ⟨hj, p, hp, hio⟩
    · obtain ⟨e1, e2, e3, e4⟩ := k1.stays k2 hj hr h2 h3
      obtain ⟨q1, q2, q3⟩ := e4 b h4
      obtain ⟨f1, f2, f3⟩ := k1.inn j s c a b hr h2 h3 q1
      refine ⟨q3, f2, fun j2 s2 c2 a2 g1 g2 g3 => ?_⟩
      obtain ⟨⟨s4, c4, w3, w4⟩, hv2⟩ := view j2 s2 c2 a2 g1 g2 g3
      refine ⟨(f3 j2 s4 c4 a2 w3 w4 g3).1, fun nj n => ?_⟩
      rcases hv2 with ⟨hj2, hr2⟩ | ⟨hj2, p2, hp2, hio2⟩
      · exact (f3 j2 s2 c2 a2 hr2 g2 g3).2 nj ((k1.stays k2 hj2 hr2 g2 g3).2.2.2 b n).1
      · have z := (k2.inn p2 _ c2 a2 b hio2 rfl hp2 n).2.1
        rw [Hless.ne (k1.notLent hj hr h2 h3 (.inr q1))] at z
        obtain ⟨a', y1, y2, y3, y4⟩ := k1.ownd hr h2
        rw [h3] at y1
        cases y1
        obtain ⟨ws, hw⟩ := y4.inn q1
        rw [hw] at z
        cases z
    · obtain ⟨f1, f2, f3⟩ := k2.inn p _ c a b hio rfl hp h4
      refine ⟨f1, h0.nn f2, fun j2 s2 c2 a2 g1 g2 g3 => ?_⟩
      obtain ⟨⟨s4, c4, w3, w4⟩, hv2⟩ := view j2 s2 c2 a2 g1 g2 g3
      rcases hv2 with ⟨hj2, hr2⟩ | ⟨hj2, p2, hp2, hio2⟩
      · have far : ∀ b2, (a2 = b2 ∨ Inn H a2 c2 b2) → b ≠ b2 := fun b2 hb2 z => by
          subst z
          rw [Hless.ne (k1.notLent hj2 hr2 g2 g3 hb2)] at f2
          obtain ⟨a', y1, y2, y3, y4⟩ := k1.ownd hr2 g2
          rw [g3] at y1
          cases y1
          rcases hb2 with rfl | hb2
          · obtain ⟨o, ho⟩ := y4.there
            rw [ho] at f2
            cases f2
          · obtain ⟨ws, hw⟩ := y4.inn hb2
            rw [hw] at f2
            cases f2
        exact ⟨fun z => far a2 (.inl rfl) z.symm, fun _ n => far b (.inr ((k1.stays k2 hj2 hr2 g2 g3).2.2.2 b n).1) rfl⟩
      · obtain ⟨y1, y2⟩ := f3 p2 _ c2 a2 hio2 rfl hp2
        refine ⟨y1, fun nj n => y2 (fun z => nj ?_) n⟩
        subst z
        rw [hp] at hp2
        cases hp2
        by_cases e : j2 = j
        · exact e
        · exact (k1.dis j2 j s4 s3 c4 c3 a e w3 w1 w4 w2 g3 h3).elim
/-- what a callee handed back, beside what was lent -/
theorem RvOk.lent (k1 : Ok K pa H0 F0 F H st r) (k2 : Ok K pa' (Hless H st r is) F F' H' sv rs') (hb : BackOk st r r' is sv rs') {v : V} {rv : RV} (h : RvOk K (Hless H st r is) F' H' sv rs' v rv) : RvOk K H0 F' H' st r' v rv := by
  have h0 := k1.lentEx (is := is)
  cases rv with
  | v d => exact h
  | o c2 =>
    obtain ⟨b, rfl, z1, z2, z3, z4, z5⟩ := h
    have key : ∀ b2, Hless H st r is b2 = none → Nob H' sv rs' b2 → Nob H' st r' b2 := fun b2 hb2 nb j s c a h1 h2 h3 => by
      rcases hb.2 j s h1 with ⟨hj, hr⟩ | ⟨p, s0, ct, ct', a', hj, g1, g2, g3, rfl, g5, g6⟩
      · have far : ∀ b3, (a = b3 ∨ Inn H a c b3) → b2 ≠ b3 := fun b3 hb3 z => by
          subst z
          rw [Hless.ne (k1.notLent hj hr h2 h3 hb3)] at hb2
          obtain ⟨a', y1, y2, y3, y4⟩ := k1.ownd hr h2
          rw [h3] at y1
          cases y1
          rcases hb3 with rfl | hb3
          · obtain ⟨o, ho⟩ := y4.there
            rw [ho] at hb2
            cases hb2
          · obtain ⟨ws, hw⟩ := y4.inn hb3
            rw [hw] at hb2
            cases hb2
        exact ⟨fun z => far a (.inl rfl) z.symm, fun n => far b2 (.inr ((k1.stays k2 hj hr h2 h3).2.2.2 b2 n).1) rfl⟩
      · have e : (s0.put ct').own = some ct' := by cases s0 <;> rfl
        rw [e] at h2
        cases h2
        rw [h3] at g3
        cases g3
        exact nb p _ c a g5 rfl (g6)
    exact ⟨b, rfl, z1, h0.nn z2, z3, key b z2 z4, fun b2 hb2 => by
      obtain ⟨g1, g2, g3, g4⟩ := z5 b2 hb2
      exact ⟨g1, h0.nn g2, g3, key b2 g2 g4⟩⟩
end
section
variable {X : Cx} {c : Cc} {k n : Nat} {x : Str} {f : List Sl → Re RV} {e : Expr} {es : List Expr} {p pos : Pos} {ms : M (List D)}
theorem callV {F H : Hp} {st : L2.St} {r : En} {pa : Nat → Addr} {H0 F0 F00 : Hp} {vs : List V} {ds : List D} {Q : VK} (hn : ds.length = n) (k1 : Ok c.K pa H0 F0 F H st r) (dps : RpAll c.K F vs ds)
    (e0 : Ex F00 F) (q : Po (XW c pa H0 F0 F) (match f (ds.map .v) with
      | .ok rv _ => .ok rv r
      | .ex e _ => .ex e r
      | .no => .no) fun rv r' => ∀ F' H' v, Ok c.K pa H0 F0 F' H' st r' → Ex F00 F' → RvOk c.K H0 F' H' st r' v rv → Q v H') : spG c.K c.mg n f vs H Q (fun cls d H' => c.W cls d st H') := by
  refine ⟨by rw [dpa_len dps]; exact hn, pa, H, F, ds.map .v, argsV dps k1.fH k1.tb, argsOkV ds, ?_⟩
  have grow : ∀ {F' H' : Hp} {z : List Sl}, Ok c.K pa H F F' H' (vs.map some) z → Ok c.K pa H0 F0 F' H' st r := fun {F' H' z} k2 => k1.grow k2.hH k2.fF k2.fH (fun a h1 h2 => k2.sep a h2 h1) k2.tb
  cases hf : f (ds.map .v) with
  | no =>
    rw [hf] at q
    exact q.elim
  | ex ee z =>
    rw [hf] at q
    exact fun F' H' cls dd k2 xo => q F' H' st cls dd (grow k2) k2.fF xo
  | ok rv z =>
    rw [hf] at q
    refine fun F' H' v k2 hv => q F' H' v (grow k2) (e0.trans k2.fF) ?_
    cases rv with
    | v d => exact hv
    | o ct =>
      obtain ⟨a, rfl, z1, z2, z3, z4⟩ := hv
      exact ⟨a, rfl, z1, k1.hH.nn z2, z3, k1.awayC k2.hH z2 z4.2⟩
theorem o_call (G : Fn X.prog X.w X.K X.mg X.base k x n f) (hr : Rm k X.A) (tk : Takes X c.W) (ha : PA X (e :: es) (tA c ms)) (hK : c.K = X.K := by rfl) (hM : c.mg = X.mg := by rfl) (hg : Gl X x := by rfl) (hnm : ∀ r ds r', ms r = .ok ds r' → ds.length = n)
    (hdb : (x == ("__debug__" : Str)) = false := by decide) (he : starEach (e :: es) X.env = (false, eval e X.env) :: starEach es X.env := by rfl) (hpl : (backTo pos (starEach es X.env)).any (·.1) = false := by rfl) :
    PE X (.Call (.Name x p) (e :: es) [] pos) (tO c (cCall f ms)) := by
  obtain ⟨a, fd, ps, g1, g2, g3, g4⟩ := G.ex
  refine pe_cq (pe_callG (Ew := fun st cls d H' => c.W cls d st H') g4 hr hg g1 g2 g3 (fun σ => passAt tk σ) ha hdb he hpl) fun st H Q ⟨pa, H0, F0, F, r, ok, po⟩ => ?_
  refine ⟨pa, H0, F0, F, r, ok, ?_⟩
  have po : Po (XW c pa H0 F0 F) ((ms r).bind _) _ := po
  cases hm : ms r with
  | no =>
    rw [hm] at po
    exact po.elim
  | ex ee r1 =>
    rw [hm] at po
    exact po
  | ok ds r1 =>
    rw [hm] at po
    intro F1 H1 vs k1 e1 dps
    rw [← hK, ← hM]
    exact callV (hnm r ds r1 hm) k1 dps e1 (po.mono (XW.mono e1) fun _ _ x => x)
theorem aNil_len : ∀ (r : En) (ds : List D) (r' : En), aNil r = .ok ds r' → ds.length = 0 := fun r ds r' h => by
  cases h
  rfl
theorem aCons_len {m : M D} {ms : M (List D)} {n : Nat} (h : ∀ (r : En) (ds : List D) (r' : En), ms r = .ok ds r' → ds.length = n) : ∀ (r : En) (ds : List D) (r' : En), aCons m ms r = .ok ds r' → ds.length = n + 1 := fun r ds r' e => by
  have e : (m r).bind (fun d => ms.bind fun ds => M.ret (d :: ds)) = .ok ds r' := e
  cases hm : m r with
  | no =>
    rw [hm] at e
    cases e
  | ex ee r1 =>
    rw [hm] at e
    cases e
  | ok d r1 =>
    rw [hm] at e
    have e : (ms r1).bind (fun ds => M.ret (d :: ds)) = .ok ds r' := e
    cases hs : ms r1 with
    | no =>
      rw [hs] at e
      cases e
    | ex ee r2 =>
      rw [hs] at e
      cases e
    | ok ds2 r2 =>
      rw [hs] at e
      cases e
      exact congrArg Nat.succ (h r1 ds2 _ hs)
/-- f(x, e, ..): x in slot i is the callee's to change -/
theorem callI {i : Nat} {F H : Hp} {st : L2.St} {r : En} {pa : Nat → Addr} {H0 F0 F00 : Hp} {v0 : V} {vs : List V} {ds : List D} {Q : VK} (hn : ds.length + 1 = n) (k1 : Ok c.K pa H0 F0 F H st r) (hv0 : st[i]? = some (some v0)) (dps : RpAll c.K F vs ds)
    (e0 : Ex F00 F) (q : Po (XW c pa H0 F0 F) (match getC i r with
      | some ct => (match f (.io ct :: ds.map .v) with
        | .ok rv (.io ct' :: _) => .ok rv (putC i ct' r)
        | .ex e (.io ct' :: _) => .ex e (putC i ct' r)
        | _ => .no)
      | none => .no) fun rv r' => ∀ F' H' v, Ok c.K pa H0 F0 F' H' st r' → Ex F00 F' → RvOk c.K H0 F' H' st r' v rv → Q v H') : spG c.K c.mg n f (v0 :: vs) H Q (fun cls d H' => c.W cls d st H') := by
  cases hg : getC i r with
  | none =>
    rw [hg] at q
    exact q.elim
  | some ct =>
    rw [hg] at q
    obtain ⟨s, hs, hso⟩ := getC_some hg
    obtain ⟨a, ha, nF, n0, hct⟩ := k1.ownd hs hso
    rw [hv0] at ha
    cases ha
    -- all but that object
    let Hk : Hp := Hless H st r [i]
    have hk_a : Hk a = none := Hless.at_ ⟨i, List.mem_singleton.mpr rfl, s, ct, a, hs, hso, hv0, .inl rfl⟩
    have exk : Ex Hk H := Hless.ex
    have okA : Ok c.K (fun _ => a) Hk F F H ((V.ref a :: vs).map some) (.io ct :: ds.map Sl.v) := by
      have base := argsV (pa := fun _ => a) dps k1.fH k1.tb
      have noV : ∀ (j : Nat) (s' : Sl) (c' : Ct), (Sl.io ct :: ds.map Sl.v)[j]? = some s' → s'.own = some c' → j = 0 := fun j s' c' h o => by
        cases j with
        | zero => rfl
        | succ j =>
          have h : (ds.map Sl.v)[j]? = some s' := h
          rw [List.getElem?_map] at h
          cases hd : ds[j]? with
          | none =>
            rw [hd] at h
            cases h
          | some d =>
            rw [hd] at h
            cases h
            cases o
      refine ⟨exk, Ex.refl F, k1.fH, fun _ _ h => h, ?_, fun j s' h n => ?_, k1.tb, fun j1 j2 s1 s2 c1 c2 b ne h1 h2 o1 o2 _ _ => ?_, fun j1 s1 c1 a1 b h1 h2 h3 h4 => ?_⟩
      · have := base.len
        simp only [List.map_cons, List.length_cons] at this ⊢
        omega
      · cases j with
        | zero =>
          cases h
          exact ⟨.ref a, rfl, rfl, nF, hk_a, hct⟩
        | succ j =>
          obtain ⟨v, g1, g2⟩ := base.sl j s' h n
          refine ⟨v, g1, ?_⟩
          have h : (ds.map Sl.v)[j]? = some s' := h
          rw [List.getElem?_map] at h
          cases hd : ds[j]? with
          | none =>
            rw [hd] at h
            cases h
          | some d =>
            rw [hd] at h
            cases h
            exact g2
      · exact ne ((noV j1 s1 c1 h1 o1).trans (noV j2 s2 c2 h2 o2).symm)
      · cases noV j1 s1 c1 h1 h2
        cases h1
        cases h2
        cases h3
        obtain ⟨f1, f2, f3⟩ := k1.inn i s ct a b hs hso hv0 h4
        refine ⟨f1, Hless.at_ ⟨i, List.mem_singleton.mpr rfl, s, ct, a, hs, hso, hv0, .inr h4⟩, fun j2 s2 c2 a2 g1 g2 g3 => ?_⟩
        cases noV j2 s2 c2 g1 g2
        cases g1
        cases g2
        cases g3
        exact ⟨(f3 i s ct a hs hso hv0).1, fun z => absurd rfl z⟩
    have ao : ArgsOk (.io ct :: ds.map Sl.v) := fun s' hs' => by
      rcases List.mem_cons.mp hs' with rfl | hs'
      · exact .inr ⟨ct, rfl⟩
      · exact argsOkV ds s' hs'
    refine ⟨by rw [List.length_cons, dpa_len dps]; exact hn, fun _ => a, Hk, F, _, okA, ao, ?_⟩
    -- the caller's state behind the call
    have bk : ∀ {ct' : Ct} {z : List Sl}, BackOk st r (putC i ct' r) [i] ((V.ref a :: vs).map some) (.io ct' :: z) := fun {ct' z} => by
      have put : putC i ct' r = r.set i (s.put ct') := by
        unfold putC
        rw [hs]
      have hl : i < r.length := (List.getElem?_eq_some_iff.mp hs).1
      rw [put]
      refine ⟨List.length_set, fun j s' h => ?_⟩
      by_cases e : i = j
      · subst e
        rw [List.getElem?_set_self hl] at h
        cases h
        exact .inr ⟨0, s, ct, ct', a, List.mem_singleton.mpr rfl, hs, hso, hv0, rfl, rfl, rfl⟩
      · rw [List.getElem?_set_ne e] at h
        exact .inl ⟨fun z => e (List.mem_singleton.mp z).symm, h⟩
    have grow : ∀ {F' H' : Hp} {ct' : Ct} {z : List Sl}, Ok c.K (fun _ => a) Hk F F' H' ((V.ref a :: vs).map some) (.io ct' :: z) → Ok c.K pa H0 F0 F' H' st (putC i ct' r) := fun {F' H' ct' z} k2 => k1.lent k2 bk
    dsimp only at q
    cases hf : f (.io ct :: ds.map .v) with
    | no =>
      rw [hf] at q
      exact q.elim
    | ex ee z =>
      rw [hf] at q
      cases z with
      | nil => exact q.elim
      | cons z0 zr =>
        cases z0 with
        | io ct' => exact fun F' H' cls dd k2 xo => q F' H' st cls dd (grow k2) k2.fF xo
        | _ => exact q.elim
    | ok rv z =>
      rw [hf] at q
      cases z with
      | nil => exact q.elim
      | cons z0 zr =>
        cases z0 with
        | io ct' =>
          refine fun F' H' v k2 hv => q F' H' v (grow k2) (e0.trans k2.fF) ?_
          exact hv.lent k1 k2 bk
        | _ => exact q.elim
theorem o_callI (i : Nat) {y : Str} {py : Pos} (G : Fn X.prog X.w X.K X.mg X.base k x n f) (hr : Rm k X.A) (tk : Takes X c.W) (ha : PA X es (tA c ms)) (hnm : ∀ r ds r', ms r = .ok ds r' → ds.length + 1 = n) (hK : c.K = X.K := by rfl) (hM : c.mg = X.mg := by rfl) (hg : Gl X x := by rfl)
    (hN : X.N[i]? = some y := by rfl) (hv : Vis X.env.scope y := by first | exact Or.inl rfl | exact Or.inr (Or.inl rfl) | exact Or.inr (Or.inr rfl)) (hd : (y == ("__debug__" : Str)) = false := by decide) (hcd : (y == ("__classdict__" : Str)) = false := by decide)
    (hdb : (x == ("__debug__" : Str)) = false := by decide) (he : starEach (.Name y py :: es) X.env = (false, eval (.Name y py) X.env) :: starEach es X.env := by rfl) (hpl : (backTo pos (starEach es X.env)).any (·.1) = false := by rfl) :
    PE X (.Call (.Name x p) (.Name y py :: es) [] pos) (tO c (cCallI i f ms)) := by
  obtain ⟨a, fd, ps, g1, g2, g3, g4⟩ := G.ex
  refine pe_cq (pe_callG (Ew := fun st cls d H' => c.W cls d st H') g4 hr hg g1 g2 g3 (fun σ => passAt tk σ) (pa_cons (pe_var (i := i) hN hv hd hcd) ha he) hdb he hpl) fun st H Q ⟨pa, H0, F0, F, r, ok, po⟩ => ?_
  unfold cCallI at po
  cases hgc : getC i r with
  | none =>
    rw [hgc] at po
    exact po.elim
  | some ct0 =>
  rw [hgc] at po
  dsimp only at po
  obtain ⟨s0, hs0, hso0⟩ := getC_some hgc
  obtain ⟨a0, hv0, _⟩ := ok.ownd hs0 hso0
  refine ⟨_, hv0, pa, H0, F0, F, r, ok, ?_⟩
  cases hm : ms r with
  | no =>
    rw [hm] at po
    exact po.elim
  | ex ee r1 =>
    rw [hm] at po
    exact po
  | ok ds r1 =>
    rw [hm] at po
    intro F1 H1 vs k1 e1 dps
    rw [← hK, ← hM]
    show spG c.K c.mg n f ((V.ref a0 :: vs)) H1 Q _
    exact callI (hnm r ds r1 hm) k1 hv0 dps e1 (po.mono (XW.mono e1) fun _ _ x => x)
end
end Pu
namespace Pu
open PySem PySem.Spec PyProof.Rows L2
variable [TabT]
/-! ### tables of data -/
def keyD : D → Option Key
  | .int i => some (.inl i)
  | .str x => some (.inr x)
  | _ => none
def vK {κ : Type} [DecidableEq κ] (kvs : List (κ × D)) (k : κ) : Option D := (kvs.find? fun kv => decide (kv.1 = k)).map (·.2)
def pK {κ : Type} [DecidableEq κ] (kvs : List (κ × D)) (k : κ) (d : D) : List (κ × D) :=
  if (kvs.any fun kv => decide (kv.1 = k)) = true then kvs.map (fun kv => if kv.1 = k then (kv.1, d) else kv) else kvs ++ [(k, d)]
section
variable {K : PySem.W.Frag} {F : Hp} {κ : Type} [DecidableEq κ]
omit [DecidableEq κ] in
theorem kv_len : ∀ {ks : List (κ × V)} {kvs : List (κ × D)}, KvAll K F ks kvs → ks.length = kvs.length
  | _, _, .nil => rfl
  | _, _, .cons _ t => congrArg Nat.succ (kv_len t)
theorem kv_any (k : κ) : ∀ {ks : List (κ × V)} {kvs : List (κ × D)}, KvAll K F ks kvs → (ks.any fun kv => decide (kv.1 = k)) = (kvs.any fun kv => decide (kv.1 = k))
  | _, _, .nil => rfl
  | _, _, .cons _ t => by
    rw [List.any_cons, List.any_cons, kv_any k t]
theorem kv_get {k : κ} {d : D} : ∀ {ks : List (κ × V)} {kvs : List (κ × D)}, KvAll K F ks kvs → vK kvs k = some d → ∃ v, valV ks k = some v ∧ Rp K F v d
  | _, _, .nil, h => by cases h
  | _, _, .cons (k := k') (v := v') (d := d') (ks := ks) (kvs := kvs) r t, h => by
    by_cases e : k' = k
    · have h1 : vK ((k', d') :: kvs) k = some d' := by simp [vK, List.find?_cons, e]
      rw [h1] at h
      cases h
      exact ⟨v', valV_pos e, r⟩
    · have h1 : vK ((k', d') :: kvs) k = vK kvs k := by simp [vK, List.find?_cons, e]
      rw [h1] at h
      obtain ⟨v, g1, g2⟩ := kv_get t h
      exact ⟨v, (valV_neg e).trans g1, g2⟩
theorem kv_none {k : κ} : ∀ {ks : List (κ × V)} {kvs : List (κ × D)}, KvAll K F ks kvs → vK kvs k = none → valV ks k = none
  | _, _, .nil, _ => rfl
  | _, _, .cons (k := k') (v := v') (d := d') (ks := ks) (kvs := kvs) r t, h => by
    by_cases e : k' = k
    · have h1 : vK ((k', d') :: kvs) k = some d' := by simp [vK, List.find?_cons, e]
      rw [h1] at h
      cases h
    · have h1 : vK ((k', d') :: kvs) k = vK kvs k := by simp [vK, List.find?_cons, e]
      rw [h1] at h
      exact (valV_neg e).trans (kv_none t h)
theorem kv_map {k : κ} {v : V} {d : D} (r : Rp K F v d) : ∀ {ks : List (κ × V)} {kvs : List (κ × D)}, KvAll K F ks kvs → KvAll K F (ks.map fun kv => if kv.1 = k then (kv.1, v) else kv) (kvs.map fun kv => if kv.1 = k then (kv.1, d) else kv)
  | _, _, .nil => .nil
  | _, _, .cons (k := k') (v := v') (d := d') (ks := ks) (kvs := kvs) r' t => by
    rw [List.map_cons, List.map_cons]
    by_cases e : k' = k
    · rw [if_pos e, if_pos e]
      exact .cons r (kv_map r t)
    · rw [if_neg e, if_neg e]
      exact .cons r' (kv_map r t)
omit [DecidableEq κ] in
theorem kv_app : ∀ {ks ls : List (κ × V)} {kvs lvs : List (κ × D)}, KvAll K F ks kvs → KvAll K F ls lvs → KvAll K F (ks ++ ls) (kvs ++ lvs)
  | _, _, _, _, .nil, h => h
  | _, _, _, _, .cons r t, h => .cons r (kv_app t h)
theorem kv_put {k : κ} {v : V} {d : D} {ks : List (κ × V)} {kvs : List (κ × D)} (h : KvAll K F ks kvs) (r : Rp K F v d) : KvAll K F (putK ks k v) (pK kvs k d) := by
  unfold putK pK
  rw [kv_any k h]
  split
  · exact kv_map r h
  · exact kv_app h (.cons r .nil)
theorem rp_key {v : V} {d : D} {k : Key} (h : Rp K F v d) (e : keyD d = some k) : v = kV k := by
  cases h with
  | int i =>
    cases e
    rfl
  | str x =>
    cases e
    rfl
  | _ => cases e
end
/-! ### lists and dicts of one's own -/
def sAppend (i : Nat) (m : M D) : M Fl := fun r => match getC i r with
  | some (.l _) => (m r).bind fun d r => match getC i r with
    | some (.l ds) => if ds.length < 16777216 then .ok .nx (putC i (.l (ds ++ [d])) r) else .no
    | _ => .no
  | _ => .no
/-- x.extend(a new list) -/
def sExtend (i : Nat) (m : M RV) : M Fl := fun r => match getC i r with
  | some (.l _) => (m r).bind fun rv r => match rv, getC i r with
    | .o (.l es), some (.l ds) => if ds.length + es.length ≤ 16777216 then .ok .nx (putC i (.l (ds ++ es)) r) else .no
    | _, _ => .no
  | _ => .no
section
variable {X : Cx} {c : Cc}
theorem s_append (i : Nat) {x : Str} {e : Expr} {m : M D} {px apos cpos pos : Pos} (h : PE X e (tM c m)) (hK : c.K = X.K := by rfl) (hN : X.N[i]? = some x := by rfl) (hv : Vis X.env.scope x := by first | exact Or.inl rfl | exact Or.inr (Or.inl rfl) | exact Or.inr (Or.inr rfl)) (hd : (x == ("__debug__" : Str)) = false := by decide)
    (hcd : (x == ("__classdict__" : Str)) = false := by decide) (hs1 : starEach [e] X.env = [(false, eval e X.env)] := by rfl)
    (hbase : attributeBase (.Name x px) "append" X.env (eval (.Name x px) X.env) = eval (.Name x px) X.env := by rfl)
    (hfew : ((backTo cpos (starEach [e] X.env)).all (fun x => !x.1) && (backToKw cpos (keywordEach [] X.env)).all (fun x => x.1.isSome) && decide (([e] : List Expr).length + ([] : List Keyword).length + (if ([] : List Keyword).isEmpty then 0 else 1) < 30)) = true := by rfl)
    (hline : (apos.endLine == cpos.line) = true := by rfl) (hplain : (backTo cpos (starEach [] X.env)).any (·.1) = false := by rfl) (hsw : swapsWith (.Call (.Attribute (.Name x px) "append" apos) [e] [] cpos) none pos.line X.env = pure false := by rfl) :
    PS X (.Expr (.Call (.Attribute (.Name x px) "append" apos) [e] [] cpos) pos) (sM c (sAppend i m)) :=
  ps_cq (ps_expr (pe_bm PySem.F.plainAttrs_list PySem.F.slot_list_append PySem.F.type_list_append mt_append (pe_var (i := i) hN hv hd hcd) (pa_cons h pa_nil hs1) hbase hfew hline hs1 hplain) hsw) fun Dd st H ⟨pa, H0, F0, F, r, ok, po⟩ => by
    unfold sAppend at po
    split at po
    · rename_i ds0 hg
      obtain ⟨s0, hs0, hso0⟩ := getC_some hg
      obtain ⟨a, hst, nF, n0, vs0, hH0, hr0⟩ := ok.ownd hs0 hso0
      refine ⟨_, hst, .inl ⟨rfl, vs0, .inl (.inl hH0)⟩, ?_⟩
      refine ⟨pa, H0, F0, F, r, ok, (Po.bind po).mono (fun _ _ x => x) fun d r1 q F1 H1 v k1 e1 dp => ?_⟩
      split at q
      · rename_i ds hg1
        split at q
        · rename_i hl
          obtain ⟨s1, hs1, hso1⟩ := getC_some hg1
          obtain ⟨a1, hst1, nF1, n01, vs, hH1, hr1⟩ := k1.ownd hs1 hso1
          rw [hst] at hst1
          cases hst1
          refine ⟨a, vs, v, rfl, rfl, hH1, by rw [dpa_len hr1, sizeLine_eq]; exact hl, ?_⟩
          exact q F1 _ st (k1.putC hg1 hst ⟨_, upd_same, dpa_app hr1 (.cons dp .nil)⟩) e1
        · exact q.elim
      · exact q.elim
    · exact po.elim
/-- a key that is a tuple of ints and texts -/
def keysD : List D → Option (List Key)
  | [] => some []
  | d :: ds => (keyD d).bind fun k => (keysD ds).map (k :: ·)
def tkeyD : D → Option (List Key)
  | .tuple ds => keysD ds
  | _ => none
theorem rp_keysD {K : PySem.W.Frag} {F : Hp} : ∀ {vs : List V} {ds : List D} {ks : List Key}, RpAll K F vs ds → keysD ds = some ks → vs = ks.map kV
  | _, _, _, .nil, h => by
    cases h
    rfl
  | _, _, _, .cons (d := d) (ds := ds) r t, h => by
    have h : (keyD d).bind (fun k => (keysD ds).map (k :: ·)) = some _ := h
    cases hk : keyD d with
    | none =>
      rw [hk] at h
      cases h
    | some k =>
      rw [hk] at h
      cases hks : keysD ds with
      | none =>
        rw [hks] at h
        cases h
      | some ks2 =>
        rw [hks] at h
        cases h
        rw [rp_keysD t hks, rp_key r hk]
        rfl
theorem rp_tkey {K : PySem.W.Frag} {F : Hp} {v : V} {d : D} {ks : List Key} (h : Rp K F v d) (hk : tkeyD d = some ks) : ∃ b, v = .ref b ∧ F b = some (.tup (ks.map kV)) := by
  cases h with
  | @tup a xs ds g1 g2 =>
    refine ⟨a, rfl, ?_⟩
    rw [← rp_keysD g2 hk]
    exact g1
  | _ => cases hk
/-! o[k] = e -/
theorem pset_or {t t' : TSet} (h : PSet X t) (h' : PSet X t') : PSet X (fun o i v H Q => t o i v H Q ∨ t' o i v H Q) :=
  fun pins s st H o i v ov iv u Q I ro ri rv q => q.elim (h pins s st H o i v ov iv u Q I ro ri rv) (h' pins s st H o i v ov iv u Q I ro ri rv)
/-- the slot is owned ahead of the key -/
def sPut' (i : Nat) (mk m : M D) : M Fl := m.bind fun d r => match getC i r with
  | none => .no
  | some _ => (mk r).bind fun k r => match getC i r with
    | some (.l ds) => (match k with
      | .int n => (match ixN ds.length n with
        | some j => .ok .nx (putC i (.l (ds.set j d)) r)
        | none => .no)
      | _ => .no)
    | some (.d kvs) => (match keyD k with
      | some y => if kvs.length < 16777216 then .ok .nx (putC i (.d (pK kvs y d)) r) else .no
      | none => .no)
    | some (.t kvs) => (match tkeyD k with
      | some y => if kvs.length < 16777216 then .ok .nx (putC i (.t (pK kvs y d)) r) else .no
      | none => .no)
    | some (.n _) => .no
    | none => .no
theorem s_put (i : Nat) {x : Str} {ek e : Expr} {mk m : M D} {px spos pos : Pos} (hk : PE X ek (tM c mk)) (h : PE X e (tM c m)) (hu : X.A.units + 1 < cLine) (hN : X.N[i]? = some x := by rfl) (hv : Vis X.env.scope x := by first | exact Or.inl rfl | exact Or.inr (Or.inl rfl) | exact Or.inr (Or.inr rfl)) (hd : (x == ("__debug__" : Str)) = false := by decide)
    (hcd : (x == ("__classdict__" : Str)) = false := by decide) (ha : ∀ v, assign (.Subscript (.Name x px) ek spos) X.env v = (do
      let ov ← holding [v] (eval (.Name x px) X.env)
      let iv ← holding [v, ov] (eval ek X.env)
      standAt spos
      holding [v, ov, iv] (setItem ov iv v)
      release [v, ov, iv] []) := by intro _; rfl)
    (hs : swapsWithSole [.Subscript (.Name x px) ek spos] e pos.line X.env = pure false := by rfl) (hw : swappedStores [.Subscript (.Name x px) ek spos] e X.env = pure none := by rfl)
    (h1 : (assignEach [.Subscript (.Name x px) ek spos] X.env).map (·.2) = [assign (.Subscript (.Name x px) ek spos) X.env] := by rfl) :
    PS X (.Assign [.Subscript (.Name x px) ek spos] e pos) (sM c (sPut' i mk m)) :=
  ps_cq (ps_asg h (pg_sub (pe_var (i := i) hN hv hd hcd) hk (pset_or set_list (set_dict hu)) ha) hs hw h1) fun Dd st H ⟨pa, H0, F0, F, r, ok, po⟩ => seqM ok po fun d r1 F1 H1 v k1 e1 dp q => by
    split at q
    · exact q.elim
    · rename_i ct0 hg
      obtain ⟨s0, hs0, hso0⟩ := getC_some hg
      obtain ⟨a, hst, _⟩ := k1.ownd hs0 hso0
      refine ⟨_, hst, pa, H0, F0, F1, r1, k1, (Po.bind q).mono (fun _ _ x => x) fun kd r2 q F2 H2 kv k2 e2 dk => ?_⟩
      split at q
      · rename_i ds hg2
        obtain ⟨s1, hs1, hso1⟩ := getC_some hg2
        obtain ⟨a1, hst1, nF1, n01, vs, hH1, hr1⟩ := k2.ownd hs1 hso1
        rw [hst] at hst1
        cases hst1
        split at q
        · rename_i n
          split at q
          · rename_i j hj
            cases rp_int dk
            refine .inl ⟨a, vs, n, j, rfl, rfl, hH1, by rw [dpa_len hr1]; exact hj, ?_⟩
            exact q F2 _ st (k2.putC hg2 hst ⟨_, upd_same, dpa_set (dp_mono e2 dp) j hr1⟩) (e1.trans e2)
          · exact q.elim
        · exact q.elim
      · rename_i kvs hg2
        obtain ⟨s1, hs1, hso1⟩ := getC_some hg2
        obtain ⟨a1, hst1, nF1, n01, ks, hH1, hr1⟩ := k2.ownd hs1 hso1
        rw [hst] at hst1
        cases hst1
        split at q
        · rename_i y hy
          split at q
          · rename_i hl
            cases rp_key dk hy
            refine .inr ⟨a, _, rfl, DPut.k (k := y) hH1 (by rw [kv_len hr1, sizeLine_eq]; exact hl), ?_⟩
            exact q F2 _ st (k2.putC hg2 hst ⟨_, upd_same, kv_put hr1 (dp_mono e2 dp)⟩) (e1.trans e2)
          · exact q.elim
        · exact q.elim
      · rename_i kvs hg2
        obtain ⟨s1, hs1, hso1⟩ := getC_some hg2
        obtain ⟨a1, hst1, nF1, n01, ks, hH1, hr1⟩ := k2.ownd hs1 hso1
        rw [hst] at hst1
        cases hst1
        split at q
        · rename_i y hy
          split at q
          · rename_i hl
            obtain ⟨b, rfl, hb⟩ := rp_tkey dk hy
            refine .inr ⟨a, _, rfl, DPut.t (k := y) hH1 (k2.fH.at_ _ _ hb fun ps z => nomatch z) (by rw [kv_len hr1, sizeLine_eq]; exact hl), ?_⟩
            exact q F2 _ st (k2.putC hg2 hst ⟨_, upd_same, kv_put hr1 (dp_mono e2 dp)⟩) (e1.trans e2)
          · exact q.elim
        · exact q.elim
      · exact q.elim
      · exact q.elim
/-! x[k], len(x), where x may be one's own -/
def ixL (ds : List D) : D → Option D
  | .int n => atI ds n
  | _ => none
def ixD : D → D → Option D
  | .list ds, k => ixL ds k
  | .tuple ds, k => ixL ds k
  | .str z, .int n => if z.length ≤ 16777216 then (atI z.cps.toList n).map fun ch => .str ⟨#[ch]⟩ else none
  | _, _ => none
theorem atI_rp {K : PySem.W.Frag} {F : Hp} {vs : List V} {ds : List D} {n : Int} {d : D} (hr : RpAll K F vs ds) (h : atI ds n = some d) : ∃ v, atI vs n = some v ∧ Rp K F v d := by
  unfold atI at h ⊢
  rw [dpa_len hr]
  cases hj : ixN ds.length n with
  | none =>
    rw [hj] at h
    cases h
  | some j =>
    rw [hj] at h
    exact dpa_get hr h
theorem opr_cq {f : Value → Value → Sem Value} {r r' : R2} (h : OpR X f r) (i : ∀ x y H Q, r' x y H Q → r x y H Q) : OpR X f r' := fun pins s st H x y v u Q I rx ry q => h pins s st H x y v u Q I rx ry (i x y H Q q)
theorem unr_cq {f : Value → Sem Value} {r r' : V → Hp → VK → Prop} (h : UnR X f r) (i : ∀ x H Q, r' x H Q → r x H Q) : UnR X f r' := fun pins s st H x v Q I rx q => h pins s st H x v Q I rx (i x H Q q)
theorem ixr_cq {r r' : R2} (h : IxR X r) (i : ∀ x y H Q, r' x y H Q → r x y H Q) : IxR X r' := fun va sl pins s st H x y v u Q I rx ry q => h va sl pins s st H x y v u Q I rx ry (i x y H Q q)
theorem callr_cq {f : Value} {r r' : List V → Hp → VK → Prop} (h : CallR X f r) (i : ∀ x H Q, r' x H Q → r x H Q) : CallR X f r' := fun pins s st H x v Q I rx q => h pins s st H x v Q I rx (i x H Q q)
theorem ix_data (hK : c.K = X.K := by rfl) : IxR X (rD2 c.K ixD) := ixr_cq ix_seq fun x y H Q ⟨F, d, e, z, fh, dx, dy, hz, q⟩ => by
  cases dx with
  | @lst a vs ds h1 h2 =>
    cases dy with
    | int n =>
      obtain ⟨v, g1, g2⟩ := atI_rp h2 hz
      exact .inl ⟨a, vs, n, v, rfl, rfl, by rw [← hK]; exact fh.l h1, g1, q v F H (.inl ⟨rfl, rfl⟩) g2⟩
    | _ => cases hz
  | @tup a vs ds h1 h2 =>
    cases dy with
    | int n =>
      obtain ⟨v, g1, g2⟩ := atI_rp h2 hz
      exact .inr (.inl ⟨a, vs, n, v, rfl, rfl, by rw [← hK]; exact fh.t h1, g1, q v F H (.inl ⟨rfl, rfl⟩) g2⟩)
    | _ => cases hz
  | str w =>
    cases dy with
    | int n =>
      have hz : (if w.length ≤ 16777216 then (atI w.cps.toList n).map fun ch => PyData.str ⟨#[ch]⟩ else none) = some z := hz
      by_cases hl : w.length ≤ 16777216
      · rw [if_pos hl] at hz
        cases ha : atI w.cps.toList n with
        | none =>
          rw [ha] at hz
          cases hz
        | some ch =>
          rw [ha] at hz
          cases hz
          exact .inr (.inr ⟨w, n, ch, rfl, rfl, by rw [sizeLine_eq]; exact hl, ha, q _ F H (.inl ⟨rfl, rfl⟩) (.str _)⟩)
      · rw [if_neg hl] at hz
        cases hz
    | _ => cases hz
  | _ => cases hz
theorem pe_or' {e : Expr} {t t' : TE} (h : PE X e t) (h' : PE X e t') : PE X e (fun st H Q => t st H Q ∨ t' st H Q) := ⟨fun pins s st H Q I q => q.elim (h.run pins s st H Q I) (h'.run pins s st H Q I)⟩
/-- x[k], x a list or a dict of one's own, or data -/
def eIxS (i : Nat) (mk : M D) : M D := fun r => match getC i r with
  | some (.l _) => (mk r).bind fun k r => match getC i r with
    | some (.l ds) => M.opt (ixL ds k) r
    | _ => .no
  | some (.d _) => (mk r).bind fun k r => match getC i r with
    | some (.d kvs) => M.opt ((keyD k).bind (vK kvs)) r
    | _ => .no
  | some (.t _) => .no
  | some (.n _) => .no
  | none => bin ixD (getS i) mk r
theorem e_ixS (i : Nat) {x : Str} {ek : Expr} {mk : M D} {px pos : Pos} (hk : PE X ek (tM c mk)) (hu : X.A.units + 1 < cLine) (hK : c.K = X.K := by rfl) (hs : PlainIx ek := by exact fun _ _ => rfl) (hN : X.N[i]? = some x := by rfl) (hv : Vis X.env.scope x := by first | exact Or.inl rfl | exact Or.inr (Or.inl rfl) | exact Or.inr (Or.inr rfl)) (hd : (x == ("__debug__" : Str)) = false := by decide)
    (hcd : (x == ("__classdict__" : Str)) = false := by decide) : PE X (.Subscript (.Name x px) ek pos) (tM c (eIxS i mk)) :=
  pe_cq (pe_or' (pe_or' (pe_ix ix_list (pe_var (i := i) hN hv hd hcd) hk hs) (pe_dget hu (pe_var (i := i) hN hv hd hcd) hk hs)) (e_ix (c := c) (ix_data hK) (e_var i hN hv hd hcd) hk hs)) fun st H Q ⟨pa, H0, F0, F, r, ok, po⟩ => by
    unfold eIxS at po
    split at po
    · rename_i ds0 hg
      obtain ⟨s0, hs0, hso0⟩ := getC_some hg
      obtain ⟨a, hst, _⟩ := ok.ownd hs0 hso0
      refine .inl (.inl ⟨_, hst, pa, H0, F0, F, r, ok, (Po.bind po).mono (fun _ _ x => x) fun kd r1 q F1 H1 v k1 e1 dp => ?_⟩)
      split at q
      · rename_i ds hg1
        obtain ⟨s1, hs1, hso1⟩ := getC_some hg1
        obtain ⟨a1, hst1, nF1, n01, vs, hH1, hr1⟩ := k1.ownd hs1 hso1
        rw [hst] at hst1
        cases hst1
        obtain ⟨z, hz, q2⟩ := opt_po q
        cases dp with
        | int n =>
          obtain ⟨w, g1, g2⟩ := atI_rp hr1 hz
          exact ⟨a, vs, n, w, rfl, rfl, .inl (.inl hH1), g1, q2 F1 H1 w k1 e1 g2⟩
        | _ => cases hz
      · exact q.elim
    · rename_i kv0 hg
      obtain ⟨s0, hs0, hso0⟩ := getC_some hg
      obtain ⟨a, hst, _⟩ := ok.ownd hs0 hso0
      refine .inl (.inr ⟨_, hst, pa, H0, F0, F, r, ok, (Po.bind po).mono (fun _ _ x => x) fun kd r1 q F1 H1 v k1 e1 dp => ?_⟩)
      split at q
      · rename_i kvs hg1
        obtain ⟨s1, hs1, hso1⟩ := getC_some hg1
        obtain ⟨a1, hst1, nF1, n01, ks, hH1, hr1⟩ := k1.ownd hs1 hso1
        rw [hst] at hst1
        cases hst1
        obtain ⟨z, hz, q⟩ := opt_po q
        cases hy : keyD kd with
        | none =>
          rw [hy] at hz
          cases hz
        | some y =>
          rw [hy] at hz
          obtain ⟨w, g1, g2⟩ := kv_get hr1 hz
          cases rp_key dp hy
          refine ⟨a, w, rfl, ?_, q F1 H1 w k1 e1 g2⟩
          rw [← g1]
          exact DGet.k hH1
      · exact q.elim
    · exact po.elim
    · exact po.elim
    · exact .inr ⟨pa, H0, F0, F, r, ok, po⟩
/-- len(x) -/
def lenD : D → Option D
  | .list ds => some (.int (ds.length : Nat))
  | .tuple ds => some (.int (ds.length : Nat))
  | .str z => if z.length ≤ 16777216 then some (.int (z.length : Nat)) else none
  | _ => none
def one (g : D → Option D) : List D → Option D
  | [d] => g d
  | _ => none
theorem one_some {g : D → Option D} {ds : List D} {z : D} (h : one g ds = some z) : ∃ d, ds = [d] ∧ g d = some z := by
  unfold one at h
  split at h
  · exact ⟨_, rfl, h⟩
  · cases h
theorem len_data (hK : c.K = X.K := by rfl) : CallR X (.builtin "len") (rDA c.K (one lenD)) := callr_cq call_len fun xs H Q ⟨F, ds, z, fh, dps, hz, q⟩ => by
  obtain ⟨d, rfl, hz⟩ := one_some hz
  obtain ⟨v, rfl, dp⟩ := rpa_one dps
  cases dp with
  | @lst a vs ds h1 h2 =>
    cases hz
    refine ⟨_, ds.length, rfl, .inl ⟨vs, by rw [← hK]; exact fh.l h1, (dpa_len h2).symm⟩, q _ F H (.inl ⟨rfl, rfl⟩) (.int _)⟩
  | @tup a vs ds h1 h2 =>
    cases hz
    refine ⟨_, ds.length, rfl, .inr ⟨vs, by rw [← hK]; exact fh.t h1, (dpa_len h2).symm⟩, q _ F H (.inl ⟨rfl, rfl⟩) (.int _)⟩
  | str w =>
    have hz : (if w.length ≤ 16777216 then some (PyData.int (w.length : Nat)) else none) = some z := hz
    by_cases hl : w.length ≤ 16777216
    · rw [if_pos hl] at hz
      cases hz
      exact ⟨_, w.length, rfl, ⟨by rw [sizeLine_eq]; exact hl, rfl⟩, q _ F H (.inl ⟨rfl, rfl⟩) (.int _)⟩
    · rw [if_neg hl] at hz
      cases hz
  | _ => cases hz
def eLenS (i : Nat) : M D := fun r => match getC i r with
  | some (.l ds) => .ok (.int (ds.length : Nat)) r
  | some (.d kvs) => .ok (.int (kvs.length : Nat)) r
  | some (.t _) => .no
  | some (.n _) => .no
  | none => nry (one lenD) (aCons (getS i) aNil) r
theorem e_lenS (i : Nat) {x : Str} {p px pos : Pos} (hm : X.mg "len" = none) (hK : c.K = X.K := by rfl) (hg : Gl X "len" := by rfl) (hs1 : starEach [.Name x px] X.env = [(false, eval (.Name x px) X.env)] := by rfl) (hpl : (backTo pos (starEach [] X.env)).any (·.1) = false := by rfl)
    (hN : X.N[i]? = some x := by rfl) (hv : Vis X.env.scope x := by first | exact Or.inl rfl | exact Or.inr (Or.inl rfl) | exact Or.inr (Or.inr rfl)) (hd : (x == ("__debug__" : Str)) = false := by decide)
    (hcd : (x == ("__classdict__" : Str)) = false := by decide) : PE X (.Call (.Name "len" p) [.Name x px] [] pos) (tM c (eLenS i)) :=
  pe_cq (pe_or' (pe_or' (pe_callB call_len hg hm PySem.boot_len (pa_cons (pe_var (i := i) hN hv hd hcd) pa_nil hs1) (by decide) (by decide) hs1 hpl) (pe_callB call_lenD hg hm PySem.boot_len (pa_cons (pe_var (i := i) hN hv hd hcd) pa_nil hs1) (by decide) (by decide) hs1 hpl))
    (e_callB (c := c) (len_data hK) hm (a_cons (e_var i hN hv hd hcd) a_nil hs1) hg PySem.boot_len (by decide) (by decide) hs1 hpl)) fun st H Q ⟨pa, H0, F0, F, r, ok, po⟩ => by
    unfold eLenS at po
    split at po
    · rename_i ds hg
      obtain ⟨s0, hs0, hso0⟩ := getC_some hg
      obtain ⟨a, hst, nF, n0, vs, hH, hr⟩ := ok.ownd hs0 hso0
      exact .inl (.inl ⟨_, hst, _, ds.length, rfl, .inl ⟨vs, .inl (.inl hH), (dpa_len hr).symm⟩, po F H _ ok (Ex.refl F) (.int _)⟩)
    · rename_i kvs hg
      obtain ⟨s0, hs0, hso0⟩ := getC_some hg
      obtain ⟨a, hst, nF, n0, ks, hH, hr⟩ := ok.ownd hs0 hso0
      refine .inl (.inr ⟨_, hst, a, ks, rfl, hH, ?_⟩)
      rw [kv_len hr]
      exact po F H _ ok (Ex.refl F) (.int _)
    · exact po.elim
    · exact po.elim
    · exact .inr ⟨pa, H0, F0, F, r, ok, po⟩
/-! {k: v, ..} -/
end
end Pu
namespace Pu
open PySem PySem.Spec PyProof.Rows L2
variable [TabT]
/-! ### what the operators tell of data -/
def addD : D → D → Option D
  | .int i, .int j => some (.int (i + j))
  | .str a, .str b => szC (a.length + b.length) (.str (a ++ b))
  | .tuple xs, .tuple ys => szC (xs.length + ys.length) (.tuple (xs ++ ys))
  | .list xs, .list ys => szC (xs.length + ys.length) (.list (xs ++ ys))
  | _, _ => none
def subD : D → D → Option D
  | .int i, .int j => some (.int (i - j))
  | _, _ => none
/-- one factor of at most 64 bits, or both together below a hundred million -/
def mulOk (i j : Int) : Prop := i.natAbs < 2 ^ 64 ∨ j.natAbs < 2 ^ 64 ∨ i.natAbs.log2 + j.natAbs.log2 < 100000000
instance (i j : Int) : Decidable (mulOk i j) := by unfold mulOk; exact inferInstance
noncomputable def mulD : D → D → Option D
  | .int i, .int j => cI (mulOk i j) (some (.int (i * j))) none
  | .list xs, .int k => cI ((-(2 ^ 63) ≤ k ∧ k < 2 ^ 63) ∧ xs.length * k.toNat ≤ 16777216) (some (.list (List.replicate k.toNat xs).flatten)) none
  | .tuple xs, .int k => cI (-1000 ≤ k ∧ k ≤ 1000 ∧ xs.length ≤ 1000) (some (.tuple (List.replicate k.toNat xs).flatten)) none
  | _, _ => none
noncomputable def fdivD : D → D → Option D
  | .int i, .int j => cI (j ≠ 0 ∧ j.natAbs.log2 < 9000) (some (.int (i.fdiv j))) none
  | _, _ => none
noncomputable def modD : D → D → Option D
  | .int i, .int j => cI (j ≠ 0) (some (.int (i.fmod j))) none
  | _, _ => none
noncomputable def powD : D → D → Option D
  | .int i, .int j => cI (0 ≤ j ∧ j ≤ 1000000 ∧ i.natAbs < 2 ^ 64) (some (.int (i ^ j.toNat))) none
  | _, _ => none
def negD : D → Option D
  | .int i => some (.int (-i))
  | _ => none
noncomputable def ltD : D → D → Option D
  | .int i, .int j => some (.bool (cd (i < j)))
  | _, _ => none
noncomputable def leD : D → D → Option D
  | .int i, .int j => some (.bool (cd (i ≤ j)))
  | _, _ => none
noncomputable def gtD : D → D → Option D
  | .int i, .int j => some (.bool (cd (j < i)))
  | _, _ => none
noncomputable def geD : D → D → Option D
  | .int i, .int j => some (.bool (cd (j ≤ i)))
  | _, _ => none
/-- rows of other lengths, whatever they hold -/
def eqL : D → D → Option D
  | .list xs, .list ys => if xs.length = ys.length then none else some (.bool false)
  | .tuple xs, .tuple [] => if xs.length = 0 then none else some (.bool false)
  | _, _ => none
def eqD : D → D → Option D
  | .str a, .str b => some (.bool (decide (a = b)))
  | d, e => if SeqAt.shaped d = true ∧ SeqAt.shaped e = true then some (.bool (PyData.eqv d e)) else eqL d e
def neD : D → D → Option D
  | .str a, .str b => some (.bool (!decide (a = b)))
  | d, e => if SeqAt.shaped d = true ∧ SeqAt.shaped e = true then some (.bool (!PyData.eqv d e)) else none
section
variable {X : Cx} {c : Cc}
theorem mulOk.ok {i j : Int} (h : mulOk i j) : IntMulOk i j := by
  have b : ∀ x : Int, Builtin.Int.intBits x ≤ x.natAbs.log2 + 1 := fun x => by
    unfold Builtin.Int.intBits
    split <;> omega
  have s64 : ∀ x : Int, x.natAbs < 2 ^ 64 → Builtin.Int.intBits x ≤ 64 := fun x hx => by
    have h1 := b x
    have h2 : x.natAbs.log2 < 64 := PySem.Flt.log2_lt_of (by decide) hx
    omega
  rcases h with h | h | h
  · exact .of_left (s64 i h)
  · exact .of_right (s64 j h)
  · have h1 := b i
    have h2 := b j
    have e : bitsLine = 134217728 := by decide
    unfold IntMulOk
    intro z
    rw [Bool.and_eq_true] at z
    have z2 := z.2
    unfold Builtin.Int.intTooBig at z2
    have z3 := of_decide_eq_true z2
    rw [e] at z3
    omega
/-- lists that are read, added -/
theorem op_catR : OpR X (binaryOp .Add) (fun x y H Q => ∃ l b xs zs, x = .ref l ∧ y = .ref b ∧ SqL X.K H l xs ∧ SqL X.K H b zs ∧ xs.length + zs.length ≤ sizeLine ∧ ∀ p, H p = none → Q (.ref p) (upd H p (.lst (xs ++ zs)))) := by
  intro pins s st H x y v u Q I rx ry h
  obtain ⟨l, b, xs, zs, rfl, rfl, hl, hb, hz, q⟩ := h
  cases rx
  cases ry
  obtain ⟨us, r1, ⟨⟨c1, d1, t1, p1⟩, n1, e1, hc1, _, hd1⟩, _⟩ := I.list hl
  obtain ⟨ws, r2, ⟨⟨c2, d2, t2, p2⟩, n2, e2, hc2, _, hd2⟩, _⟩ := I.list hb
  simp only at hc1 hd1 hc2 hd2
  subst hc1 hd1 hc2 hd2
  have l1 := r1.length
  have l2 := r2.length
  refine concat_meets ⟨_, e1, rfl⟩ ⟨_, e2, rfl⟩ noFill_list_add seq_list_add PySem.F.slot_list_add PySem.F.entry_list_add (PySem.F.args_list_add_2 _ _) (list_addW l b us.toArray ws.toArray n1 n2 d1 d2 p1 p2 (by rw [List.size_toArray, List.size_toArray]; omega)) ⟨e1, e2, ?_⟩
  have ea : us.toArray ++ ws.toArray = (us ++ ws).toArray := by simp
  rw [ea]
  exact ⟨.ref _, _, I.lnew (t' := s.toks) (r1.append r2) (by rw [List.length_append]; exact hz), rfl, q _ I.fresh⟩
theorem szC_some {α : Type} {n : Nat} {a z : α} (h : szC n a = some z) : n ≤ sizeLine ∧ a = z := by
  unfold szC at h
  split at h
  · cases h
    exact ⟨by rw [sizeLine_eq]; assumption, rfl⟩
  · cases h
theorem add_data (hK : c.K = X.K := by rfl) : OpR X (binaryOp .Add) (rD2 c.K addD) :=
  opr_cq (((op_add.or op_add_str).or op_catA).or op_catR) fun x y H Q ⟨F, d, e, z, fh, dx, dy, hz, q⟩ => by
    cases dx with
    | int i =>
      cases dy with
      | int j =>
        cases hz
        exact .inl (.inl (.inl ⟨i, j, rfl, rfl, q _ F H (.inl ⟨rfl, rfl⟩) (.int _)⟩))
      | _ => cases hz
    | str a =>
      cases dy with
      | str b =>
        obtain ⟨h1, rfl⟩ := szC_some hz
        exact .inl (.inl (.inr ⟨a, b, rfl, rfl, h1, q _ F H (.inl ⟨rfl, rfl⟩) (.str _)⟩))
      | _ => cases hz
    | @tup a vs ds g1 g2 =>
      cases dy with
      | @tup b ws es g3 g4 =>
        obtain ⟨h1, rfl⟩ := szC_some hz
        refine .inl (.inr ⟨a, b, vs, ws, rfl, rfl, by rw [← hK]; exact fh.t g1, by rw [← hK]; exact fh.t g3, by rw [dpa_len g2, dpa_len g4]; exact h1, fun e => ?_, fun n e => ?_, fun n n2 p np => ?_⟩)
        · subst e
          cases g2
          exact q _ F H (.inl ⟨rfl, rfl⟩) (.tup g3 g4)
        · subst e
          cases g4
          rw [List.append_nil] at q
          exact q _ F H (.inl ⟨rfl, rfl⟩) (.tup g1 g2)
        · have nF := fh.nn np
          exact q _ _ _ (.inr ⟨p, _, np, rfl, rfl⟩) (.tup upd_same (dpa_mono (Ex.new nF) (dpa_app g2 g4)))
      | _ => cases hz
    | @lst a vs ds g1 g2 =>
      cases dy with
      | @lst b ws es g3 g4 =>
        obtain ⟨h1, rfl⟩ := szC_some hz
        refine .inr ⟨a, b, vs, ws, rfl, rfl, by rw [← hK]; exact fh.l g1, by rw [← hK]; exact fh.l g3, by rw [dpa_len g2, dpa_len g4]; exact h1, fun p np => ?_⟩
        have nF := fh.nn np
        exact q _ _ _ (.inr ⟨p, _, np, rfl, rfl⟩) (.lst (.inl (.inl upd_same)) (dpa_mono (Ex.new nF) (dpa_app g2 g4)))
      | _ => cases hz
    | _ => cases hz
theorem sub_data : OpR X (binaryOp .Sub) (rD2 c.K subD) := opr_cq op_sub fun x y H Q ⟨F, d, e, z, fh, dx, dy, hz, q⟩ => by
  cases dx with
  | int i =>
    cases dy with
    | int j =>
      cases hz
      exact ⟨i, j, rfl, rfl, q _ F H (.inl ⟨rfl, rfl⟩) (.int _)⟩
    | _ => cases hz
  | _ => cases hz
theorem op_mulA : OpR X (binaryOp .Mult) (rI mulOk fun i j => .int (i * j)) := opI fun _ _ _ _ _ _ _ hc q => mul_int q hc.ok
theorem op_repR : OpR X (binaryOp .Mult) (fun x y H Q => ∃ l k xs, x = .ref l ∧ y = .int k ∧ SqL X.K H l xs ∧ -(2 ^ 63) ≤ k ∧ k < 2 ^ 63 ∧ xs.length * k.toNat ≤ sizeLine ∧ ∀ p, H p = none → Q (.ref p) (upd H p (.lst (List.replicate k.toNat xs).flatten))) := by
  intro pins s st H x y v u Q I rx ry h
  obtain ⟨l, k, xs, rfl, rfl, hl, h1, h2, hz, q⟩ := h
  cases rx
  obtain ⟨t, rfl⟩ := ry
  obtain ⟨us, r1, ⟨⟨c1, d1, t1, p1⟩, n1, e1, hc1, _, hd1⟩, _⟩ := I.list hl
  simp only at hc1 hd1
  subst hc1 hd1
  have l1 := r1.length
  have hlen : us.toArray.size * k.toNat ≤ 2 ^ 24 := by
    have z := hz
    rw [sizeLine_eq, l1] at z
    rw [List.size_toArray]
    omega
  refine wpAny_binaryOp_repeat_ref (T := "list") (U := "int") (by decide) ⟨_, e1, rfl⟩ (fun s' => typeIs_int s' k t) noFill_list_mul F.fills_int_mul F.slot_int_rmul repeat_list F.slot_int_index.lookup
    (call_meets F.slot_int_rmul (typeIs_int s k t) F.entry_int_rmul (F.args_int_rmul_2 _ _) (lm_int_rmul_list_any k t l us.toArray n1 d1 p1)
      ⟨e1, rfl, ⟨_, e1, rfl⟩, call_meets F.slot_list_mul ⟨_, e1, rfl⟩ F.entry_list_mul (F.args_list_mul_2 _ _)
        (lm_list_mul_any l us.toArray n1 d1 p1 k t (by simp [Builtin.List.listFitsIndex]; omega) (by omega) (by simp [Builtin.List.listTooLong, sizeLine]; omega)) ⟨e1, ?_⟩⟩)
  rw [listMul_foldl_if]
  exact ⟨.ref _, _, I.lnew (t' := s.toks) (r1.rep k.toNat) (by rw [PyProof.Rows.lm_len_rep_flat, Nat.mul_comm]; exact hz), rfl, q _ I.fresh⟩
theorem tuple_mul1 (l : Addr) (items : Array Value) (n : Nat) (dd : Option Addr) (sl : Array (Option Value)) (x : Int) (u : Tok) (c0 : (decide (x < -(2 ^ 63)) || decide (x ≥ 2 ^ 63)) = false) (c1 : (items.isEmpty || x == 1) = true) :
    Meets (Builtin.«tuple.__mul__» ⟨[.ref l, .int x u], []⟩) (fun _ R s => s.heap.get? l = some { cls := .type "tuple", dict := dd, data := .seq items n, slots := sl } ∧ R (.ok (.ret (Value.ref l))) s) :=
  .of_wp fun prog w A R s h => by
    obtain ⟨hp, g, d, tk, os⟩ := s
    obtain ⟨hl, h⟩ := h
    have f1 := AutoSeq1.idx_int
    wp_walk using wpAny_loadPart' hl
    repeat (first
      | (refine wpAny_ite_false (decide_eq_false (by rw [c0]; exact Bool.false_ne_true)) ?_; wp_walk using wpAny_loadPart' hl)
      | (refine wpAny_ite_true (decide_eq_true c1) ?_; wp_walk using wpAny_loadPart' hl))
    exact ⟨_, rfl, h⟩
theorem tuple_mul0 (l : Addr) (items : Array Value) (n : Nat) (dd : Option Addr) (sl : Array (Option Value)) (x : Int) (u : Tok) (c0 : (decide (x < -(2 ^ 63)) || decide (x ≥ 2 ^ 63)) = false) (c1 : (items.isEmpty || x == 1) = false) (c2 : (decide (x ≤ 0) || items.isEmpty) = true) :
    Meets (Builtin.«tuple.__mul__» ⟨[.ref l, .int x u], []⟩) (fun _ R s => s.heap.get? l = some { cls := .type "tuple", dict := dd, data := .seq items n, slots := sl } ∧ R (.ok (.ret (Value.ref s.heap.objs.size))) { s with heap := s.heap.push { cls := Value.type "tuple", data := Data.seq #[] }, toks := s.toks }) :=
  .of_wp fun prog w A R s h => by
    obtain ⟨hp, g, d, tk, os⟩ := s
    obtain ⟨hl, h⟩ := h
    have f1 := AutoSeq1.idx_int
    wp_walk using wpAny_loadPart' hl
    repeat (first
      | (refine wpAny_ite_false (decide_eq_false (by rw [c0]; exact Bool.false_ne_true)) ?_; wp_walk using wpAny_loadPart' hl)
      | (refine wpAny_ite_false (decide_eq_false (by rw [c1]; exact Bool.false_ne_true)) ?_; wp_walk using wpAny_loadPart' hl)
      | (refine wpAny_ite_true (decide_eq_true c2) ?_; wp_walk using wpAny_loadPart' hl))
    exact ⟨_, rfl, h⟩
theorem op_repT01 : OpR X (binaryOp .Mult) (fun x y H Q => ∃ l k xs, x = .ref l ∧ y = .int k ∧ SqT X.K H l xs ∧ -(2 ^ 63) ≤ k ∧ k < 2 ^ 63 ∧ (((xs = [] ∨ k = 1) ∧ Q (.ref l) H) ∨ ((xs ≠ [] ∧ k ≤ 0) ∧ ∀ p, H p = none → Q (.ref p) (upd H p (.tup []))))) := by
  intro pins s σ H x y v u Q I rx ry h
  obtain ⟨l, k, xs, rfl, rfl, hT, h1, h2, q⟩ := h
  cases rx
  obtain ⟨t, rfl⟩ := ry
  obtain ⟨its, r, ⟨⟨cls, dd, data, sl⟩, ho, hc, n, hd⟩, hs⟩ := I.tuple hT
  simp only at hc hd
  subst hc hd
  have hle : its.length = xs.length := r.length.symm
  have c0 : (decide (k < -(2 ^ 63)) || decide (k ≥ 2 ^ 63)) = false := by
    rw [decide_eq_false (by omega), decide_eq_false (by omega)] <;> rfl
  have hem : its.toArray.isEmpty = true ↔ xs = [] := by
    rw [List.isEmpty_toArray, List.isEmpty_iff_length_eq_zero, hle, List.length_eq_zero_iff]
  refine wpAny_binaryOp_repeat_ref (T := "tuple") (U := "int") (by decide) ⟨_, ho, rfl⟩ (fun s' => typeIs_int s' k t) noFill_tuple_mul F.fills_int_mul F.slot_int_rmul repeat_tuple F.slot_int_index.lookup
    (call_meets F.slot_int_rmul (typeIs_int s k t) F.entry_int_rmul (F.args_int_rmul_2 _ _) (int_rmul_tuple k t l its.toArray n dd sl) ⟨ho, rfl, ⟨_, ho, rfl⟩, ?_⟩)
  rcases q with ⟨hq, q⟩ | ⟨⟨hn, hk⟩, q⟩
  · have c1 : (its.toArray.isEmpty || k == 1) = true := by
      rw [Bool.or_eq_true, beq_iff_eq, hem]
      exact hq
    exact call_meets F.slot_tuple_mul ⟨_, ho, rfl⟩ F.entry_tuple_mul (F.args_tuple_mul_2 _ _) (tuple_mul1 l its.toArray n dd sl k t c0 c1) ⟨ho, .ref l, H, I, rfl, q⟩
  · have c1 : (its.toArray.isEmpty || k == 1) = false := by
      rw [Bool.or_eq_false_iff]
      refine ⟨?_, beq_eq_false_iff_ne.mpr (by omega)⟩
      cases e : its.toArray.isEmpty with
      | false => rfl
      | true => exact absurd (hem.mp e) hn
    have c2 : (decide (k ≤ 0) || its.toArray.isEmpty) = true := by
      rw [decide_eq_true hk]
      rfl
    refine call_meets F.slot_tuple_mul ⟨_, ho, rfl⟩ F.entry_tuple_mul (F.args_tuple_mul_2 _ _) (tuple_mul0 l its.toArray n dd sl k t c0 c1 c2) ⟨ho, ?_⟩
    refine ⟨.ref s.heap.objs.size, _, I.laid (t' := s.toks) (o := .tup []) (fun b ob q => Heap.get?_push_of_some _ q) (Nat.le_refl _) ?_, rfl, q _ (I.hok.fresh (Nat.le_refl _))⟩
    exact ⟨by simp, _, .nil, IsTup.new _ _⟩
theorem mul_data (hK : c.K = X.K := by rfl) : OpR X (binaryOp .Mult) (rD2 c.K mulD) := opr_cq (((op_mulA.or op_repR).or op_repT).or op_repT01) fun x y H Q ⟨F, d, e, z, fh, dx, dy, hz, q⟩ => by
  cases dx with
  | int i =>
    cases dy with
    | int j =>
      have hz : (if mulOk i j then some (PyData.int (i * j)) else none) = some z := by
        rw [← cI_eq]
        exact hz
      by_cases hm : mulOk i j
      · rw [if_pos hm] at hz
        cases hz
        exact .inl (.inl (.inl ⟨i, j, rfl, rfl, hm, q _ F H (.inl ⟨rfl, rfl⟩) (.int _)⟩))
      · rw [if_neg hm] at hz
        cases hz
    | _ => cases hz
  | @lst a vs ds g1 g2 =>
    cases dy with
    | int k =>
      have hz : (if (-(2 ^ 63) ≤ k ∧ k < 2 ^ 63) ∧ ds.length * k.toNat ≤ 16777216 then some (PyData.list (List.replicate k.toNat ds).flatten) else none) = some z := by
        rw [← cI_eq]
        exact hz
      split at hz
      · rename_i hm
        cases hz
        refine .inl (.inl (.inr ⟨a, k, vs, rfl, rfl, by rw [← hK]; exact fh.l g1, hm.1.1, hm.1.2, by rw [dpa_len g2, sizeLine_eq]; exact hm.2, fun p np => ?_⟩))
        have nF := fh.nn np
        exact q _ _ _ (.inr ⟨p, _, np, rfl, rfl⟩) (.lst (.inl (.inl upd_same)) (dpa_mono (Ex.new nF) (dpa_rep g2 _)))
      · cases hz
    | _ => cases hz
  | @tup a vs ds g1 g2 =>
    cases dy with
    | int k =>
      have hz : (if -1000 ≤ k ∧ k ≤ 1000 ∧ ds.length ≤ 1000 then some (PyData.tuple (List.replicate k.toNat ds).flatten) else none) = some z := by
        rw [← cI_eq]
        exact hz
      split at hz
      · rename_i hm
        cases hz
        by_cases hs : vs = [] ∨ k = 1
        · refine .inr ⟨a, k, vs, rfl, rfl, by rw [← hK]; exact fh.t g1, by omega, by omega, .inl ⟨hs, ?_⟩⟩
          have e : (List.replicate k.toNat ds).flatten = ds := by
            rcases hs with hs | hs
            · subst hs
              cases g2
              simp
            · subst hs
              simp
          rw [e] at q
          exact q _ F H (.inl ⟨rfl, rfl⟩) (.tup g1 g2)
        · by_cases hk : 2 ≤ k
          · refine .inl (.inr ⟨a, k, vs, rfl, rfl, by rw [← hK]; exact fh.t g1, fun e => hs (.inl e), hk, hm.2.1, by rw [dpa_len g2]; exact hm.2.2, fun p np => ?_⟩)
            have nF := fh.nn np
            exact q _ _ _ (.inr ⟨p, _, np, rfl, rfl⟩) (.tup upd_same (dpa_mono (Ex.new nF) (dpa_rep g2 _)))
          · have hk0 : k ≤ 0 := by
              have : k ≠ 1 := fun e => hs (.inr e)
              omega
            refine .inr ⟨a, k, vs, rfl, rfl, by rw [← hK]; exact fh.t g1, by omega, by omega, .inr ⟨⟨fun e => hs (.inl e), hk0⟩, fun p np => ?_⟩⟩
            have e : (List.replicate k.toNat ds).flatten = [] := by
              rw [Int.toNat_of_nonpos hk0]
              rfl
            rw [e] at q
            exact q _ _ _ (.inr ⟨p, _, np, rfl, rfl⟩) (.tup upd_same .nil)
      · cases hz
    | _ => cases hz
  | _ => cases hz
theorem mod_data : OpR X (binaryOp .Mod) (rD2 c.K modD) := opr_cq op_modN fun x y H Q ⟨F, d, e, z, fh, dx, dy, hz, q⟩ => by
  cases dx with
  | int i =>
    cases dy with
    | int j =>
      have hz : (if j ≠ 0 then some (PyData.int (i.fmod j)) else none) = some z := by
        rw [← cI_eq]
        exact hz
      split at hz
      · rename_i hm
        cases hz
        exact ⟨i, j, rfl, rfl, hm, q _ F H (.inl ⟨rfl, rfl⟩) (.int _)⟩
      · cases hz
    | _ => cases hz
  | _ => cases hz
theorem pow_data : OpR X (binaryOp .Pow) (rD2 c.K powD) := opr_cq op_pow fun x y H Q ⟨F, d, e, z, fh, dx, dy, hz, q⟩ => by
  cases dx with
  | int i =>
    cases dy with
    | int j =>
      have hz : (if 0 ≤ j ∧ j ≤ 1000000 ∧ i.natAbs < 2 ^ 64 then some (PyData.int (i ^ j.toNat)) else none) = some z := by
        rw [← cI_eq]
        exact hz
      split at hz
      · rename_i hm
        cases hz
        exact ⟨i, j, rfl, rfl, hm, q _ F H (.inl ⟨rfl, rfl⟩) (.int _)⟩
      · cases hz
    | _ => cases hz
  | _ => cases hz
theorem neg_data : UnR X (unaryOp .USub) (rD1 c.K negD) := unr_cq un_neg fun x H Q ⟨F, d, z, fh, dx, hz, q⟩ => by
  cases dx with
  | int i =>
    cases hz
    exact ⟨i, rfl, q _ F H (.inl ⟨rfl, rfl⟩) (.int _)⟩
  | _ => cases hz
theorem cmpI_data {op : CmpOp} {p : Int → Int → Bool} {g : D → D → Option D} (ho : OpR X (compareOp op) (rI0 fun i j => .bl (p i j))) (hg : ∀ d e z, g d e = some z → ∃ i j, d = .int i ∧ e = .int j ∧ z = .bool (p i j)) : OpR X (compareOp op) (rD2 c.K g) :=
  opr_cq ho fun x y H Q ⟨F, d, e, z, fh, dx, dy, hz, q⟩ => by
    obtain ⟨i, j, rfl, rfl, rfl⟩ := hg _ _ _ hz
    cases rp_int dx
    cases rp_int dy
    exact ⟨i, j, rfl, rfl, q _ F H (.inl ⟨rfl, rfl⟩) (.bl _)⟩
theorem lt_data : OpR X (compareOp .Lt) (rD2 c.K ltD) := cmpI_data op_lt fun d e z h => by
  unfold ltD at h
  split at h <;> cases h
  exact ⟨_, _, rfl, rfl, by rw [cd_eq]⟩
theorem gt_data : OpR X (compareOp .Gt) (rD2 c.K gtD) := cmpI_data op_gt fun d e z h => by
  unfold gtD at h
  split at h <;> cases h
  exact ⟨_, _, rfl, rfl, by rw [cd_eq]⟩
theorem ge_data : OpR X (compareOp .GtE) (rD2 c.K geD) := cmpI_data op_ge fun d e z h => by
  unfold geD at h
  split at h <;> cases h
  exact ⟨_, _, rfl, rfl, by rw [cd_eq]⟩
theorem dec_str (a b : Str) : decide (V.str a = V.str b) = decide (a = b) := by
  refine decide_eq_decide.mpr ⟨fun h => ?_, fun h => by rw [h]⟩
  cases h
  rfl
theorem op_eqLL (hu : X.A.units + 64 < cLine) : OpR X (compareOp .Eq) (fun x y H Q => ∃ a b xs ys, x = .ref a ∧ y = .ref b ∧ ((SqL X.K H a xs ∧ SqL X.K H b ys ∧ xs.length ≠ ys.length) ∨ (SqT X.K H a xs ∧ SqT X.K H b ys ∧ ys = [] ∧ xs.length ≠ 0)) ∧ Q (.bl false) H) := by
  intro pins s σ H x y v u Q I rx ry h
  obtain ⟨a, b, xs, ys, rfl, rfl, h, q⟩ := h
  cases rx
  cases ry
  rcases h with ⟨h1, h2, hne⟩ | ⟨h1, h2, he, hne⟩
  · obtain ⟨its, r, pl, hz⟩ := I.list h1
    obtain ⟨its2, r2, pl2, hz2⟩ := I.list h2
    have l1 := r.length
    have l2 := r2.length
    exact SeqAt.eq_list_lengthsAt pl.isList pl2.isList (by simp; omega) (by omega) ⟨.bl _, H, I, rfl, q⟩
  · obtain ⟨its, r, pl, hz⟩ := I.tuple h1
    obtain ⟨its2, r2, pl2, hz2⟩ := I.tuple h2
    have l1 := r.length
    have l2 := r2.length
    subst he
    have l3 : its2.toArray.size = 0 := by simp; simpa using l2.symm
    refine SeqAt.eq_tupleAt (e := fun _ => true) pl pl2 (by omega) (fun j j1 j2 => by omega) ?_
    have e : ((List.range (min its.toArray.size its2.toArray.size)).all (fun _ => true) && its.toArray.size == its2.toArray.size) = false := by
      rw [l3]
      simp
      intro z
      rw [z] at l1
      exact hne (by simpa using l1)
    rw [e]
    exact ⟨.bl _, H, I, rfl, q⟩
theorem eq_data (hu : X.A.units + 64 < cLine) (hK : c.K = X.K := by rfl) : OpR X (compareOp .Eq) (rD2 c.K eqD) := opr_cq (((op_eqD hu).or op_eq).or (op_eqLL hu)) fun x y H Q ⟨F, d, e, z, fh, dx, dy, hz, q⟩ => by
  unfold eqD at hz
  split at hz
  · cases dx
    cases dy
    cases hz
    refine .inl (.inr ⟨rfl, ?_⟩)
    rw [dec_str]
    exact q _ F H (.inl ⟨rfl, rfl⟩) (.bl _)
  · split at hz
    · rename_i hm
      cases hz
      refine .inl (.inl ⟨d, e, by rw [← hK]; exact rp_dp (dp_mono fh dx) hm.1, by rw [← hK]; exact rp_dp (dp_mono fh dy) hm.2, hm.1, hm.2, q _ F H (.inl ⟨rfl, rfl⟩) (.bl _)⟩)
    · refine .inr ?_
      cases dx with
      | @lst a1 vs1 ds1 g1 g2 =>
        cases dy with
        | @lst a2 vs2 ds2 g3 g4 =>
          have hz : (if ds1.length = ds2.length then none else some (PyData.bool false)) = some z := hz
          split at hz
          · cases hz
          · rename_i hn
            cases hz
            exact ⟨_, _, _, _, rfl, rfl, .inl ⟨by rw [← hK]; exact fh.l g1, by rw [← hK]; exact fh.l g3, by rw [dpa_len g2, dpa_len g4]; exact hn⟩, q _ F H (.inl ⟨rfl, rfl⟩) (.bl _)⟩
        | _ => cases hz
      | @tup a1 vs1 ds1 g1 g2 =>
        cases dy with
        | @tup a2 vs2 ds2 g3 g4 =>
          cases g4 with
          | nil =>
            have hz : (if ds1.length = 0 then none else some (PyData.bool false)) = some z := hz
            split at hz
            · cases hz
            · rename_i hn
              cases hz
              exact ⟨_, _, _, _, rfl, rfl, .inr ⟨by rw [← hK]; exact fh.t g1.s, by rw [← hK]; exact fh.t g3, rfl, by rw [dpa_len g2]; exact hn⟩, q _ F H (.inl ⟨rfl, rfl⟩) (.bl _)⟩
          | cons _ _ => cases hz
        | _ => cases hz
      | _ => cases hz
theorem ne_data (hu : X.A.units + 64 < cLine) (hK : c.K = X.K := by rfl) : OpR X (compareOp .NotEq) (rD2 c.K neD) := opr_cq ((op_neD hu).or op_ne) fun x y H Q ⟨F, d, e, z, fh, dx, dy, hz, q⟩ => by
  unfold neD at hz
  split at hz
  · cases dx
    cases dy
    cases hz
    refine .inr ⟨rfl, ?_⟩
    rw [dec_str]
    exact q _ F H (.inl ⟨rfl, rfl⟩) (.bl _)
  · split at hz
    · rename_i hm
      cases hz
      exact .inl ⟨d, e, by rw [← hK]; exact rp_dp (dp_mono fh dx) hm.1, by rw [← hK]; exact rp_dp (dp_mono fh dy) hm.2, hm.1, hm.2, q _ F H (.inl ⟨rfl, rfl⟩) (.bl _)⟩
    · cases hz
/-! chains: a op b op c -/
def eChain (g g' : D → D → Option D) (ma mb mc : M D) : M D := ma.bind fun x => mb.bind fun y => (M.opt (g x y)).bind fun b => match b with
  | .bool true => mc.bind fun z => M.opt (g' y z)
  | .bool false => M.ret (.bool false)
  | _ => M.no
end
/-! ### built-ins -/
def absD : D → Option D
  | .int i => some (.int (if i < 0 then -i else i))
  | _ => none
def intD : D → Option D
  | .int i => some (.int i)
  | .bool k => some (.int (if k then 1 else 0))
  | _ => none
def tupD : D → Option D
  | .list ds => some (.tuple ds)
  | .tuple ds => some (.tuple ds)
  | _ => none
def two (g : D → D → Option D) : List D → Option D
  | [d, e] => g d e
  | _ => none
def minD : D → D → Option D
  | .int i, .int j => some (.int (if j < i then j else i))
  | _, _ => none
def maxD : D → D → Option D
  | .int i, .int j => some (.int (if j > i then j else i))
  | _, _ => none
def intsOf : List D → Option (List Int)
  | [] => some []
  | .int i :: ds => (intsOf ds).map (i :: ·)
  | _ => none
def boolsOf : List D → Option (List Bool)
  | [] => some []
  | .bool i :: ds => (boolsOf ds).map (i :: ·)
  | _ => none
def allD : D → Option D
  | .list ds => (boolsOf ds).map fun bs => .bool (bs.all id)
  | _ => none
def anyD : D → Option D
  | .list ds => (boolsOf ds).map fun bs => .bool (bs.any id)
  | _ => none
def listD : List D → Option (List D)
  | [.list ds] => some ds
  | [.tuple ds] => some ds
  | _ => none
section
variable {X : Cx} {c : Cc}
theorem two_some {g : D → D → Option D} {ds : List D} {z : D} (h : two g ds = some z) : ∃ d e, ds = [d, e] ∧ g d e = some z := by
  unfold two at h
  split at h
  · exact ⟨_, _, rfl, h⟩
  · cases h
theorem abs_data : CallR X (.builtin "abs") (rDA c.K (one absD)) := callr_cq call_abs fun xs H Q ⟨F, ds, z, fh, dps, hz, q⟩ => by
  obtain ⟨d, rfl, hz⟩ := one_some hz
  obtain ⟨v, rfl, dp⟩ := rpa_one dps
  cases dp with
  | int i =>
    cases hz
    exact ⟨i, rfl, q _ F H (.inl ⟨rfl, rfl⟩) (.int _)⟩
  | _ => cases hz
theorem int_data : CallR X (.type "int") (rDA c.K (one intD)) := callr_cq call_int1 fun xs H Q ⟨F, ds, z, fh, dps, hz, q⟩ => by
  obtain ⟨d, rfl, hz⟩ := one_some hz
  obtain ⟨v, rfl, dp⟩ := rpa_one dps
  cases dp with
  | int i =>
    cases hz
    exact .inl ⟨i, rfl, q _ F H (.inl ⟨rfl, rfl⟩) (.int _)⟩
  | bl k =>
    cases hz
    exact .inr ⟨k, rfl, q _ F H (.inl ⟨rfl, rfl⟩) (.int _)⟩
  | _ => cases hz
theorem min_data (hc : X.calm = true := by rfl) : CallR X (.builtin "min") (rDA c.K (two minD)) := callr_cq (call_min2 hc) fun xs H Q ⟨F, ds, z, fh, dps, hz, q⟩ => by
  obtain ⟨d, e, rfl, hz⟩ := two_some hz
  obtain ⟨v, w, rfl, dp, dp2⟩ := rpa_two dps
  cases dp with
  | int i =>
    cases dp2 with
    | int j =>
      cases hz
      exact ⟨i, j, rfl, q _ F H (.inl ⟨rfl, rfl⟩) (.int _)⟩
    | _ => cases hz
  | _ => cases hz
theorem max_data (hc : X.calm = true := by rfl) : CallR X (.builtin "max") (rDA c.K (two maxD)) := callr_cq (call_max2 hc) fun xs H Q ⟨F, ds, z, fh, dps, hz, q⟩ => by
  obtain ⟨d, e, rfl, hz⟩ := two_some hz
  obtain ⟨v, w, rfl, dp, dp2⟩ := rpa_two dps
  cases dp with
  | int i =>
    cases dp2 with
    | int j =>
      cases hz
      exact ⟨i, j, rfl, q _ F H (.inl ⟨rfl, rfl⟩) (.int _)⟩
    | _ => cases hz
  | _ => cases hz
theorem tup_data (hK : c.K = X.K := by rfl) : CallR X (.type "tuple") (rDA c.K (one tupD)) := callr_cq call_tuple_of fun xs H Q ⟨F, ds, z, fh, dps, hz, q⟩ => by
  obtain ⟨d, rfl, hz⟩ := one_some hz
  obtain ⟨v, rfl, dp⟩ := rpa_one dps
  cases dp with
  | @lst a vs ds g1 g2 =>
    cases hz
    refine ⟨a, vs, rfl, .inl ⟨by rw [← hK]; exact fh.l g1, fun p np => ?_⟩⟩
    have nF := fh.nn np
    exact q _ _ _ (.inr ⟨p, _, np, rfl, rfl⟩) (.tup upd_same (dpa_mono (Ex.new nF) g2))
  | @tup a vs ds g1 g2 =>
    cases hz
    exact ⟨a, vs, rfl, .inr ⟨by rw [← hK]; exact fh.t g1, q _ F H (.inl ⟨rfl, rfl⟩) (.tup g1 g2)⟩⟩
  | _ => cases hz
/-! isinstance against a built-in class -/
def tyName : D → Option String
  | .none => some "NoneType"
  | .bool _ => some "bool"
  | .int _ => some "int"
  | .str _ => some "str"
  | .list _ => some "list"
  | .tuple _ => some "tuple"
  | .dict ((.str _, _) :: _) => none
  | .dict ((.bool _, _) :: _) => none
  | .dict _ => some "dict"
def isiD (T : String) (d : D) : Option D := match d with
  | .dict ((.str _, _) :: _) => if T ∈ basicT then some (.bool false) else none
  | d => (tyName d).bind fun n => (kitB n T).map .bool
/-! an exception that was caught -/
theorem callr_or {f : Value} {r r' : List V → Hp → VK → Prop} (h : CallR X f r) (h' : CallR X f r') : CallR X f (fun xs H Q => r xs H Q ∨ r' xs H Q) := fun pins s st H xs us Q I rv q => q.elim (h pins s st H xs us Q I rv) (h' pins s st H xs us Q I rv)
theorem excC_kit {K : PySem.W.Frag} {C a : Addr} {ox : Obj} {od : Option Obj} (c : ExcC K C) : PySem.W.KitX K (.ref a) (.ref C) (fun h => PySem.W.InstAt h a ox C od) := by
  obtain ⟨cd, hc, _⟩ := PySem.W.any_some c.hd
  exact PySem.W.kitx_exc (by rw [hc]; rfl) c.hg c.hk c.hs c.ha c.hn c.ht c.hm
def ExAt (H : Hp) (a C : Addr) : Prop := ∃ d, H a = some (CauO (.ref C) d a) ∧ ∀ dd, d = some dd → ∃ fs, H dd = some (.xd fs)
theorem exAt_inst {X : Cx} {pins : List (Addr × Obj)} {st : L2.St} {H : Hp} {s : Shared} {a C : Addr} (I : Inv X pins st H s) (h : ExAt H a C) : ∃ ox od, PySem.W.InstAt s.heap a ox C od := by
  obtain ⟨d, h1, h2⟩ := h
  obtain ⟨⟨oe, vs, hg, ⟨hz1, hz2⟩, hd⟩, _, _⟩ := I.hok a _ h1
  have hno : PySem.W.notCls oe = true := by
    unfold PySem.W.notCls
    rw [hd]
  cases d with
  | none => exact ⟨oe, none, hg, hz1, hno, by rw [hz2]; trivial⟩
  | some dd =>
    obtain ⟨fs, h3⟩ := h2 dd rfl
    obtain ⟨o, ho⟩ := objOk_get (I.hok dd _ h3)
    exact ⟨oe, some o, hg, hz1, hno, by rw [hz2]; exact ho⟩
def rIsX (K : PySem.W.Frag) : List V → Hp → VK → Prop := fun xs H Q => ∃ (a C : Addr) (c : V) (cv : Value) (b : Bool), xs = [.ref a, c] ∧ ExAt H a C ∧ ExcC K C ∧ (∀ u, RelV c u → u = cv) ∧ PySem.W.kitOne K (.ref C) cv = some b ∧ Q (.bl b) H
theorem call_isX : CallR X (.builtin "isinstance") (rIsX X.K) := by
  intro pins s st H xs us Q I r h
  obtain ⟨a, C, c, cv, b, rfl, ha, hC, hcv, e, q⟩ := h
  cases r with
  | cons rx rr =>
    cases rr with
    | cons rt rr =>
      cases rr
      cases rx
      have ec := hcv _ rt
      subst ec
      obtain ⟨ox, od, J⟩ := exAt_inst I ha
      exact PySem.W.kia_one (excC_kit hC) I.kIn J e (fun z => nomatch z) fun tk => ⟨.bl b, H, I.kept (t' := tk) fun _ _ z => z, rfl, q⟩
theorem dci_str {kv : List (Int × D)} {nm : Str} {e : D} {r : List (D × D)} (h : ((PyData.str nm, e) :: r) = kv.map fun q => (PyData.int q.1, q.2)) : False := by
  cases kv with
  | nil => cases h
  | cons q kv => cases h
theorem dct_str {kv : List (List Key × D)} {nm : Str} {e : D} {r : List (D × D)} (h : ((PyData.str nm, e) :: r) = kv.map fun q => (PyData.tuple (q.1.map kyD), q.2)) : False := by
  cases kv with
  | nil => cases h
  | cons q kv => cases h
theorem rp_exAt {K : PySem.W.Frag} {F H : Hp} {v : V} {nm : Str} {kv : List (D × D)} (h : Rp K F v (.dict ((.str nm, .none) :: kv))) (fh : Ex F H) : ∃ a, v = .ref a ∧ ExAt H a (He.ga K nm) ∧ ExcK K nm := by
  cases h with
  | exc0 h1 h2 => exact ⟨_, rfl, ⟨_, fh.at_ _ _ h1 cau_ne, fun _ z => nomatch z⟩, h2⟩
  | excF h1 h2 h3 h4 h5 => exact ⟨_, rfl, ⟨_, fh.at_ _ _ h1 cau_ne, fun dd z => by cases z; exact ⟨_, fh.at_ _ _ h2 (fun ps z => nomatch z)⟩⟩, h3⟩
  | dci _ _ _ _ w => exact (dci_str w).elim
  | dct _ _ _ _ w => exact (dct_str w).elim
theorem rp_dict1 {K : PySem.W.Frag} {F : Hp} {v : V} {nm : Str} {e : D} {kv : List (D × D)} (h : Rp K F v (.dict ((.str nm, e) :: kv))) : e = .none := by
  cases h with
  | exc0 h1 h2 => rfl
  | excF h1 h2 h3 h4 h5 => rfl
  | dci _ _ _ _ w => exact (dci_str w).elim
  | dct _ _ _ _ w => exact (dct_str w).elim
theorem ty_data {K : PySem.W.Frag} {F H : Hp} {v : V} {d : D} {n : String} (h : Rp K F v d) (fh : Ex F H) (e : tyName d = some n) : TyX K H v (.type n) := by
  cases h with
  | non => cases e; exact .base .non
  | bl b => cases e; exact .base (.bl b)
  | int i => cases e; exact .base (.int i)
  | str x => cases e; exact .base (.str x)
  | @lst a vs ds g1 g2 =>
    cases e
    rcases fh.l g1 with (g | ⟨o, g⟩) | ⟨o, its, n, g, hc, _⟩
    · exact .base (.lst g)
    · exact .base (.frz g)
    · exact .kList g hc
  | @tup a vs ds g1 g2 =>
    cases e
    rcases fh.t g1.s with (g | ⟨o, g⟩) | ⟨o, its, n, g, hc, _⟩
    · exact .base (.tup g)
    · exact .fTuple g
    · exact .kTuple g hc
  | emp g =>
    cases e
    exact .base (.dK (fh.at_ _ _ g (fun ps z => nomatch z)))
  | exc0 _ _ => cases e
  | excF _ _ _ _ _ => cases e
  | @dct a es kv dd h1 _ _ h4 h5 =>
    subst h5
    cases kv with
    | nil => exact absurd rfl h4
    | cons q kv =>
      cases e
      exact .base (.dT (fh.at_ _ _ h1 (fun ps z => nomatch z)))
  | fnv => cases e
  | @dci a od ks kv dd h1 _ _ h4 h5 =>
    subst h5
    cases kv with
    | nil => exact absurd rfl h4
    | cons q kv =>
      cases e
      exact .fDict (fh.at_ _ _ h1 (fun ps z => nomatch z))
theorem isiD_dict {T : String} {d z : D} (h : isiD T d = some z) : (∃ nm x kv, d = .dict ((.str nm, x) :: kv) ∧ T ∈ basicT ∧ z = .bool false) ∨ ((tyName d).bind fun n => (kitB n T).map PyData.bool) = some z := by
  unfold isiD at h
  split at h
  · rename_i nm x kv
    split at h
    · cases h
      exact .inl ⟨nm, x, kv, rfl, by assumption, rfl⟩
    · cases h
  · exact .inr h
theorem e_isi {T : String} {y : Str} {e : Expr} {m : M D} {p py pos : Pos} (h : PE X e (tM c m)) (hm : X.mg "isinstance" = none) (hmT : X.mg y = none) (hvT : bootBuiltins y = some (.type T) := by decide +kernel) (hK : c.K = X.K := by rfl) (hg : Gl X "isinstance" := by rfl) (hgT : Gl X y := by rfl) (hnT : y ≠ "__name__" := by decide) (hdT : (y == ("__debug__" : Str)) = false := by decide)
    (hs1 : starEach [e, .Name y py] X.env = (false, eval e X.env) :: starEach [.Name y py] X.env := by rfl) (hs2 : starEach [.Name y py] X.env = (false, eval (.Name y py) X.env) :: starEach [] X.env := by rfl) (hpl : (backTo pos (starEach [.Name y py] X.env)).any (·.1) = false := by rfl) :
    PE X (.Call (.Name "isinstance" p) [e, .Name y py] [] pos) (tM c (una (isiD T) m)) :=
  pe_cq (pe_callB (callr_or call_isi call_isX) hg hm (by decide +kernel) (pa_cons h (pa_cons (pe_bltn (v := .ty T) hgT hmT hvT rfl hnT hdT) pa_nil hs2) hs1) (by decide) (by decide) hs1 hpl) fun st H Q ⟨pa, H0, F0, F, r, ok, po⟩ => seqM ok po fun d r1 F1 H1 v k1 e1 dp q => by
    obtain ⟨z, hz, q9⟩ := opt_po q
    rcases isiD_dict hz with ⟨nm, x, kv, rfl, hT, rfl⟩ | hz
    · have hx := rp_dict1 dp
      subst hx
      obtain ⟨a, rfl, g1, g2⟩ := rp_exAt dp k1.fH
      refine .inr ⟨a, He.ga c.K nm, .ty T, .type T, false, rfl, g1, by rw [← hK]; exact g2.c, fun u ru => ru, by rw [← hK]; exact g2.t T hT, q9 F1 H1 _ k1 e1 (.bl _)⟩
    cases hn : tyName d with
    | none =>
      rw [hn] at hz
      cases hz
    | some n =>
      rw [hn] at hz
      have hz : (kitB n T).map PyData.bool = some z := hz
      cases hk : kitB n T with
      | none =>
        rw [hk] at hz
        cases hz
      | some b =>
        rw [hk] at hz
        cases hz
        exact .inl ⟨v, .ty T, .type n, .type T, b, rfl, .ty T, by rw [← hK]; exact ty_data dp k1.fH hn, kit_ty hk, q9 F1 H1 _ k1 e1 (.bl _)⟩
end
end Pu
namespace Pu
open PySem PySem.Spec PyProof.Rows L2
variable [TabT]
section
variable {X : Cx} {c : Cc}
/-! ### a slice -/
def cutL (ds : List D) (lo hi : Option Int) : List D := (ds.drop (HT.sIx ds.length 0 lo)).take (HT.sIx ds.length ds.length hi - HT.sIx ds.length 0 lo)
def slD : D → Option Int → Option Int → Option D
  | .list ds, lo, hi => some (.list (cutL ds lo hi))
  | .tuple ds, lo, hi => some (.tuple (cutL ds lo hi))
  | .str z, lo, hi => if z.length ≤ 16777216 then some (.str (cutS z lo hi)) else none
  | _, _, _ => none
def pNone : M (Option Int) := M.ret none
def pSome (m : M D) : M (Option Int) := m.bind fun d => M.opt (match d with
  | .int i => some (some i)
  | _ => none)
def eSl (m : M D) (l u : M (Option Int)) : M D := m.bind fun d => l.bind fun a => u.bind fun b => M.opt (slD d a b)
def tPo (c : Cc) (m : M (Option Int)) : TO := fun st H Q => ∃ pa H0 F0 F r, Ok c.K pa H0 F0 F H st r ∧ Po (XW c pa H0 F0 F) (m r) fun o r' => ∀ F' H', Ok c.K pa H0 F0 F' H' st r' → Ex F F' → Q o H'
theorem seqP {α : Type} {pa : Nat → Addr} {H0 F0 F H : Hp} {st : L2.St} {r : En} {ma : M (Option Int)} {f : Option Int → M α} {k : α → En → Prop} {Q : Option Int → Hp → Prop} (ok : Ok c.K pa H0 F0 F H st r) (po : Po (XW c pa H0 F0 F) (ma.bind f r) k)
    (h : ∀ d r1 F1 H1, Ok c.K pa H0 F0 F1 H1 st r1 → Ex F F1 → Po (XW c pa H0 F0 F1) (f d r1) k → Q d H1) : tPo c ma st H Q :=
  ⟨pa, H0, F0, F, r, ok, (Po.bind po).mono (fun _ _ x => x) fun d r1 q F1 H1 k1 e1 => h d r1 F1 H1 k1 e1 (q.mono (XW.mono e1) fun _ _ x => x)⟩
theorem po_cq {e : Option Expr} {t t' : TO} (h : PO X e t) (i : ∀ st H Q, t' st H Q → t st H Q) : PO X e t' := ⟨fun pins s st H Q I q => h.run pins s st H Q I (i _ _ _ q)⟩
theorem p_none : PO X none (tPo c pNone) := po_cq po_none fun st H Q ⟨pa, H0, F0, F, r, ok, po⟩ => po F H ok (Ex.refl F)
theorem p_some {e : Expr} {m : M D} (h : PE X e (tM c m)) : PO X (some e) (tPo c (pSome m)) := po_cq (po_some h) fun st H Q ⟨pa, H0, F0, F, r, ok, po⟩ => seqM ok po fun d r1 F1 H1 v k1 e1 dp q => by
  obtain ⟨z, hz, q⟩ := opt_po q
  cases dp with
  | int i =>
    cases hz
    exact ⟨i, rfl, q F1 H1 k1 e1⟩
  | _ => cases hz
theorem slr_cq {r r' : V → Option Int → Option Int → Hp → VK → Prop} (h : SlR X r) (i : ∀ x lo hi H Q, r' x lo hi H Q → r x lo hi H Q) : SlR X r' := fun pins s st H x v vl vu lo hi sl Q I rx hs pl pu q => h pins s st H x v vl vu lo hi sl Q I rx hs pl pu (i x lo hi H Q q)
def rSlD (K : PySem.W.Frag) : V → Option Int → Option Int → Hp → VK → Prop := fun x lo hi H Q => ∃ F d z, Ex F H ∧ Rp K F x d ∧ slD d lo hi = some z ∧ ∀ v F' H', NewF F H F' H' → Rp K F' v z → Q v H'
theorem cut_dpa {K : PySem.W.Frag} {F : Hp} {vs : List V} {ds : List D} (h : RpAll K F vs ds) (lo hi : Option Int) : RpAll K F (cutV vs lo hi) (cutL ds lo hi) := by
  unfold cutV cutL
  rw [dpa_len h]
  exact dpa_take _ (dpa_drop _ h)
theorem sl_data (hK : c.K = X.K := by rfl) : SlR X (rSlD c.K) := slr_cq ((sl_list.or sl_tupA).or sl_str) fun x lo hi H Q ⟨F, d, z, fh, dx, hz, q⟩ => by
  cases dx with
  | @lst a vs ds g1 g2 =>
    cases hz
    refine .inl (.inl ⟨a, vs, rfl, by rw [← hK]; exact fh.l g1, fun p np => ?_⟩)
    have nF := fh.nn np
    exact q _ _ _ (.inr ⟨p, _, np, rfl, rfl⟩) (.lst (.inl (.inl upd_same)) (dpa_mono (Ex.new nF) (cut_dpa g2 lo hi)))
  | @tup a vs ds g1 g2 =>
    cases hz
    refine .inl (.inr ⟨a, vs, rfl, by rw [← hK]; exact fh.t g1, fun e => ?_, fun _ p np => ?_⟩)
    · have e2 : cutL ds lo hi = ds := by
        unfold cutL
        rw [← dpa_len g2, e.1, e.2, dpa_len g2]
        simp
      rw [e2] at q
      exact q _ F H (.inl ⟨rfl, rfl⟩) (.tup g1 g2)
    · have nF := fh.nn np
      exact q _ _ _ (.inr ⟨p, _, np, rfl, rfl⟩) (.tup upd_same (dpa_mono (Ex.new nF) (cut_dpa g2 lo hi)))
  | str s =>
    have hz : (if s.length ≤ 16777216 then some (PyData.str (cutS s lo hi)) else none) = some z := hz
    split at hz
    · cases hz
      exact .inr ⟨s, rfl, by rw [sizeLine_eq]; assumption, q _ F H (.inl ⟨rfl, rfl⟩) (.str _)⟩
    · cases hz
  | _ => cases hz
theorem e_sl {e : Expr} {lo hi : Option Expr} {m : M D} {l u : M (Option Int)} {p2 pos : Pos} (he : PE X e (tM c m)) (hl : PO X lo (tPo c l)) (hu : PO X hi (tPo c u)) (hK : c.K = X.K := by rfl) : PE X (.Subscript e (.Slice lo hi none p2) pos) (tM c (eSl m l u)) :=
  pe_cq (pe_slice (sl_data hK) he hl hu) fun st H Q ⟨pa, H0, F0, F, r, ok, po⟩ => seqM ok po fun d r1 F1 H1 v k1 e1 dp q1 => seqP k1 q1 fun a r2 F2 H2 k2 e2 q2 => seqP k2 q2 fun b r3 F3 H3 k3 e3 q3 => by
    obtain ⟨z, hz, q4⟩ := opt_po q3
    exact ⟨F3, d, z, k3.fH, dp_mono (e2.trans e3) dp, hz, op_end (r' := r3) k3 fun F' H' v ok ex dp => q4 F' H' v ok ((e1.trans (e2.trans e3)).trans ex) dp⟩
/-! ### t[::-1] -/
def revD : D → Option D
  | .list ds => some (.list ds.reverse)
  | .tuple ds => some (.tuple ds.reverse)
  | _ => none
/-! ### a < b < c -/
/-! ### is None, is True -/
def isD : D → D → Option D
  | .bool a, .bool b => some (.bool (decide (a = b)))
  | .none, .none => some (.bool true)
  | _, .none => some (.bool false)
  | _, _ => none
def isntD : D → D → Option D
  | .bool a, .bool b => some (.bool (!decide (a = b)))
  | .none, .none => some (.bool false)
  | _, .none => some (.bool true)
  | _, _ => none
theorem is_data : OpR X (compareOp .Is) (rD2 c.K isD) := opr_cq (op_isN.or op_isBl) fun x y H Q ⟨F, d, e, z, fh, dx, dy, hz, q⟩ => by
  cases dy with
  | non =>
    cases dx <;> (cases hz; exact .inl ⟨rfl, q _ F H (.inl ⟨rfl, rfl⟩) (.bl _)⟩)
  | bl b =>
    cases dx with
    | bl a =>
      cases hz
      exact .inr ⟨a, b, rfl, rfl, q _ F H (.inl ⟨rfl, rfl⟩) (.bl _)⟩
    | _ => cases hz
  | _ => cases dx <;> cases hz
theorem isnt_data : OpR X (compareOp .IsNot) (rD2 c.K isntD) := opr_cq (op_notN.or op_notBl) fun x y H Q ⟨F, d, e, z, fh, dx, dy, hz, q⟩ => by
  cases dy with
  | non =>
    cases dx <;> (cases hz; exact .inl ⟨rfl, q _ F H (.inl ⟨rfl, rfl⟩) (.bl _)⟩)
  | bl b =>
    cases dx with
    | bl a =>
      cases hz
      exact .inr ⟨a, b, rfl, rfl, q _ F H (.inl ⟨rfl, rfl⟩) (.bl _)⟩
    | _ => cases hz
  | _ => cases dx <;> cases hz
/-! ### not of a value -/
def eNotT (m : M D) : M D := (tTru m).bind fun b => M.ret (.bool (!b))
end
end Pu
namespace Pu
open PySem PySem.Spec PyProof.Rows L2
variable [TabT]
section
variable {X : Cx} {c : Cc}
/-! ### repr -/
noncomputable def reprD : D → Option D
  | .none => some (.str "None")
  | .bool b => some (.str (if b then "True" else "False"))
  | .str x => cI ((reprText x).length ≤ 16777216) (some (.str (reprText x))) none
  | .dict [] => some (.str (PyData.dict []).shown)
  | .int i => cI (i.natAbs.log2 < 1920) (some (.str (toString i))) none
  | .list ds => cI ((PyData.list ds).showable = true ∧ SeqAt.shaped (.list ds) = true ∧ (PyData.list ds).shown.length ≤ 16777216) (some (.str (PyData.list ds).shown)) none
  | .tuple ds => cI ((PyData.tuple ds).showable = true ∧ SeqAt.shaped (.tuple ds) = true ∧ (PyData.tuple ds).shown.length ≤ 16777216) (some (.str (PyData.tuple ds).shown)) none
  | _ => none
theorem call_reprD (hg : X.A.guards = some []) (hu : X.A.units + 150 < cLine) : CallR X (.builtin "repr") (fun xs H Q => ∃ a d, xs = [.ref a] ∧ Dp X.K H (.ref a) d ∧ d.showable = true ∧ SeqAt.shaped d = true ∧ d.shown.length ≤ sizeLine ∧ Q (.str d.shown) H) := by
  intro pins s st H xs us Q I rv h
  obtain ⟨a, d, rfl, hd, h1, h2, h3, q⟩ := h
  obtain ⟨u, rfl, ru⟩ := vals1 rv
  obtain ⟨as, rd⟩ := Dp.reads I d _ _ hd ru
  cases ru
  have hdp := SeqAt.depth_of_shaped h2
  exact PySem.repr_of_reads' rd h1 (PyData.noDict_hsm (PyData.hasDict_of_canLay d (SeqAt.canLay_of_shaped h2))) hg (by omega) (fun _ _ e => e) (fun h' t tk k => ⟨.str _, H, I.kept k, ⟨_, rfl⟩, q⟩) h3
theorem call_repr_sc : CallR X (.builtin "repr") (fun xs H Q => (xs = [.non] ∧ Q (.str "None") H) ∨ (∃ b : Bool, xs = [.bl b] ∧ Q (.str (if b then "True" else "False")) H) ∨ ∃ x : Str, xs = [.str x] ∧ (reprText x).length ≤ sizeLine ∧ Q (.str (reprText x)) H) := by
  intro pins s st H xs us Q I rv h
  rcases h with ⟨rfl, q⟩ | ⟨b, rfl, q⟩ | ⟨x, rfl, hz, q⟩
  · obtain ⟨u, rfl, ru⟩ := vals1 rv
    cases (show u = Value.none from ru)
    exact PySem.P.repr_of_none ⟨.str _, H, I.tok _, ⟨_, rfl⟩, q⟩
  · obtain ⟨u, rfl, ru⟩ := vals1 rv
    cases (show u = Value.bool b from ru)
    exact PySem.P.repr_of_bool ⟨.str _, H, I.tok _, ⟨_, rfl⟩, q⟩
  · obtain ⟨u, rfl, t, rfl⟩ := vals1 rv
    exact PySem.P.repr_of_str ⟨.str _, H, I.tok _, ⟨_, rfl⟩, q⟩ hz
theorem call_repr_emp (hg : X.A.guards = some []) (hu : X.A.units + 150 < cLine) : CallR X (.builtin "repr") (fun xs H Q => ∃ a, xs = [.ref a] ∧ H a = some (.dK []) ∧ Q (.str (PyData.dict []).shown) H) := by
  intro pins s st H xs us Q I rv h
  obtain ⟨a, rfl, ha, q⟩ := h
  obtain ⟨u, rfl, ru⟩ := vals1 rv
  cases (show u = Value.ref a from ru)
  obtain ⟨_, hs, vs, hkv, o, es, ep, ho, hex, hd, _, hpr, _⟩ := (show ObjOk X.prog X.w H s.heap a (.dK []) from I.hok a _ ha)
  cases hkv
  have he : es.toList = [] := by
    have := hpr.length
    simpa using this
  have rd : Reads s.heap (.ref a) (.dict []) ([a] ++ [] ++ []) := Reads.dict (kvs := []) ho hex.1 hd (by rw [he]; exact ReadsAll.nil) (by rw [he]; exact ReadsAll.nil)
  exact PySem.repr_of_reads' rd (by decide) (fun _ hm => by
    have : sysModules = a := by simpa using hm
    rw [← this] at hs
    simp at hs) hg (by
    have : (PyData.dict []).depth ≤ 2 := by decide
    omega) (fun _ _ e => e) (fun h' t tk k => ⟨.str _, H, I.kept k, ⟨_, rfl⟩, q⟩) (by decide +kernel)
theorem repr_data {k : Nat} (hr : Rm k X.A) (hK : c.K = X.K := by rfl) : CallR X (.builtin "repr") (rDA c.K (one reprD)) := callr_cq (callr_or (callr_or SkE.call_repr_int (call_reprD hr.gd hr.u150)) (callr_or call_repr_sc (call_repr_emp hr.gd hr.u150))) fun xs H Q ⟨F, ds, z, fh, dx, hz, q⟩ => by
  obtain ⟨d, rfl, hz⟩ := one_some hz
  cases dx with
  | cons h0 h1 =>
    cases h1
    cases h0 with
    | non =>
      cases hz
      exact .inr (.inl (.inl ⟨rfl, q _ F H (.inl ⟨rfl, rfl⟩) (.str _)⟩))
    | bl b =>
      cases hz
      exact .inr (.inl (.inr (.inl ⟨b, rfl, q _ F H (.inl ⟨rfl, rfl⟩) (.str _)⟩)))
    | str x =>
      have hz : (if (reprText x).length ≤ 16777216 then some (PyData.str (reprText x)) else none) = some z := by
        rw [← cI_eq]
        exact hz
      split at hz
      · cases hz
        exact .inr (.inl (.inr (.inr ⟨x, rfl, by rw [sizeLine_eq]; assumption, q _ F H (.inl ⟨rfl, rfl⟩) (.str _)⟩)))
      · cases hz
    | emp g =>
      cases hz
      exact .inr (.inr ⟨_, rfl, fh.at_ _ _ g (fun ps z => nomatch z), q _ F H (.inl ⟨rfl, rfl⟩) (.str _)⟩)
    | int i =>
      have hz : (if i.natAbs.log2 < 1920 then some (PyData.str (toString i)) else none) = some z := by
        rw [← cI_eq]
        exact hz
      split at hz
      · cases hz
        exact .inl (.inl ⟨i, rfl, by assumption, q _ F H (.inl ⟨rfl, rfl⟩) (.str _)⟩)
      · cases hz
    | @lst a vs ds g1 g2 =>
      have hz : (if (PyData.list ds).showable = true ∧ SeqAt.shaped (.list ds) = true ∧ (PyData.list ds).shown.length ≤ 16777216 then some (.str (PyData.list ds).shown) else none) = some z := by
        rw [← cI_eq]
        exact hz
      split at hz
      · rename_i hc
        cases hz
        exact .inl (.inr ⟨a, _, rfl, by rw [← hK]; exact rp_dp (dp_mono fh (.lst g1 g2)) hc.2.1, hc.1, hc.2.1, by rw [sizeLine_eq]; exact hc.2.2, q _ F H (.inl ⟨rfl, rfl⟩) (.str _)⟩)
      · cases hz
    | @tup a vs ds g1 g2 =>
      have hz : (if (PyData.tuple ds).showable = true ∧ SeqAt.shaped (.tuple ds) = true ∧ (PyData.tuple ds).shown.length ≤ 16777216 then some (.str (PyData.tuple ds).shown) else none) = some z := by
        rw [← cI_eq]
        exact hz
      split at hz
      · rename_i hc
        cases hz
        exact .inl (.inr ⟨a, _, rfl, by rw [← hK]; exact rp_dp (dp_mono fh (.tup g1 g2)) hc.2.1, hc.1, hc.2.1, by rw [sizeLine_eq]; exact hc.2.2, q _ F H (.inl ⟨rfl, rfl⟩) (.str _)⟩)
      · cases hz
    | @dct a es kv dd _ _ _ n w =>
      subst w
      cases kv with
      | nil => exact absurd rfl n
      | cons x kv => cases hz
    | @dci a od ks kv dd _ _ _ n w =>
      subst w
      cases kv with
      | nil => exact absurd rfl n
      | cons x kv => cases hz
    | _ => cases hz
/-! ### f(..).append(..): what was told is changed and dropped -/
def sAppX (m : M RV) : M Fl := m.bind fun rv => match rv with
  | .o (.l ds) => if ds.length < 16777216 then M.ret .nx else M.no
  | _ => M.no
/-! ### a new list from + and * -/
def binO (g : D → D → Option RV) (ma mb : M D) : M RV := ma.bind fun x => mb.bind fun y => M.opt (g x y)
def addO : D → D → Option RV
  | .list xs, .list ys => szC (xs.length + ys.length) (.o (.l (xs ++ ys)))
  | d, e => (addD d e).map .v
theorem o_add {a b : Expr} {ma mb : M D} {pos : Pos} (ha : PE X a (tM c ma)) (hb : PE X b (tM c mb)) (hK : c.K = X.K := by rfl) : PE X (.BinOp a .Add b pos) (tO c (binO addO ma mb)) :=
  pe_cq (pe_op ((add_data (c := c) hK).or op_catR) ha hb) fun st H Q ⟨pa, H0, F0, F, r, ok, po⟩ => seqM ok po fun d r1 F1 H1 v k1 e1 dp q => seqM k1 q fun d2 r2 F2 H2 v2 k2 e2 dp2 q2 => by
    obtain ⟨z, hz, q3⟩ := opt_po q2
    have dp := dp_mono e2 dp
    have old : ∀ w, addD d d2 = some w → z = .v w → (rD2 c.K addD v v2 H2 Q) := fun w hw e => by
      subst e
      exact ⟨F2, d, d2, w, k2.fH, dp, dp2, hw, fun u F' H' n dpu => by
        obtain ⟨k3, e3⟩ := n.ok k2
        exact q3 F' H' u k3 ((e1.trans e2).trans e3) dpu⟩
    have gen : (addD d d2).map RV.v = some z → (rD2 c.K addD v v2 H2 Q) := fun h => by
      cases hw : addD d d2 with
      | none =>
        rw [hw] at h
        cases h
      | some w =>
        rw [hw] at h
        cases h
        exact old w hw rfl
    cases dp with
    | @lst a1 vs ds g1 g2 =>
      cases dp2 with
      | @lst a2 ws es g3 g4 =>
        have hz : szC (ds.length + es.length) (RV.o (.l (ds ++ es))) = some z := hz
        unfold szC at hz
        split at hz
        · rename_i hl
          cases hz
          refine .inr ⟨a1, a2, vs, ws, rfl, rfl, by rw [← hK]; exact k2.fH.l g1, by rw [← hK]; exact k2.fH.l g3, by rw [dpa_len g2, dpa_len g4, sizeLine_eq]; exact hl, fun p np => ?_⟩
          exact q3 F2 _ _ (k2.lay np) (e1.trans e2) ⟨p, rfl, k2.fH.nn np, k2.hH.nn np, ⟨_, upd_same, dpa_app g2 g4⟩, .l (k2.nobody np).upd⟩
        · cases hz
      | _ => exact .inl (gen hz)
    | _ => exact .inl (gen hz)
noncomputable def mulO : D → D → Option RV
  | .list xs, .int k => cI ((-(2 ^ 63) ≤ k ∧ k < 2 ^ 63) ∧ xs.length * k.toNat ≤ 16777216) (some (.o (.l (List.replicate k.toNat xs).flatten))) none
  | _, _ => none
theorem o_mul {a b : Expr} {ma mb : M D} {pos : Pos} (ha : PE X a (tM c ma)) (hb : PE X b (tM c mb)) (hK : c.K = X.K := by rfl) : PE X (.BinOp a .Mult b pos) (tO c (binO mulO ma mb)) :=
  pe_cq (pe_op op_repR ha hb) fun st H Q ⟨pa, H0, F0, F, r, ok, po⟩ => seqM ok po fun d r1 F1 H1 v k1 e1 dp q => seqM k1 q fun d2 r2 F2 H2 v2 k2 e2 dp2 q2 => by
    obtain ⟨z, hz, q3⟩ := opt_po q2
    have dp := dp_mono e2 dp
    cases dp with
    | @lst a1 vs ds g1 g2 =>
      cases dp2 with
      | int k =>
        have hz : (if (-(2 ^ 63) ≤ k ∧ k < 2 ^ 63) ∧ ds.length * k.toNat ≤ 16777216 then some (RV.o (.l (List.replicate k.toNat ds).flatten)) else none) = some z := by
          rw [← cI_eq]
          exact hz
        split at hz
        · rename_i hl
          cases hz
          refine ⟨a1, k, vs, rfl, rfl, by rw [← hK]; exact k2.fH.l g1, hl.1.1, hl.1.2, by rw [dpa_len g2, sizeLine_eq]; exact hl.2, fun p np => ?_⟩
          exact q3 F2 _ _ (k2.lay np) (e1.trans e2) ⟨p, rfl, k2.fH.nn np, k2.hH.nn np, ⟨_, upd_same, dpa_rep g2 _⟩, .l (k2.nobody np).upd⟩
        · cases hz
      | _ => cases hz
    | _ => cases hz
end
end Pu
namespace Pu
open PySem PySem.Spec PyProof.Rows L2
variable [TabT]
section
variable {X : Cx} {c : Cc}
/-- x = [..], x not changed later -/
theorem s_setLcV {i : Nat} {y : Str} {py : Pos} {elt tg iter : Expr} {ifs : List Expr} {scope : Scope} {own : List (Str × Nat)} {pos spos : Pos} {src : M (List D)} {js : List Nat} {t : Tg} {tt : M Bool} {te : M D} (hi : PI X tg iter (iM c src)) (ok : BlkOk X.N X.env.scope scope own)
    (hg : ∀ (s : Shared) (H : Hp) (C : Addr) (cl : List (Str × Addr)) (fp : List Addr), PG (X.blk s H scope (compEnvC scope cl C X.env) fp) tg (gM c.K js t)) (ht : ∀ (s : Shared) (H : Hp) (C : Addr) (cl : List (Str × Addr)) (fp : List Addr), PTs (X.blk s H scope (compEnvC scope cl C X.env) fp) ifs (tT c.nox tt))
    (he : ∀ (s : Shared) (H : Hp) (C : Addr) (cl : List (Str × Addr)) (fp : List Addr), PE (X.blk s H scope (compEnvC scope cl C X.env) fp) elt (tM c.nox te)) (hN : X.N.Nodup) (hjs : ∀ j ∈ js, j ∈ own.map (·.2) := by decide) (hc : X.calm = true := by rfl) (hy : X.N[i]? = some y := by rfl) (hyl : X.env.scope.names.lookup y = some .local := by rfl)
    (hsw : swapsWith (.ListComp elt [⟨tg, iter, ifs, 0⟩] scope pos) (some (.Name y py)) spos.line X.env = pure true := by exact sw_true rfl rfl rfl (by decide +kernel)) (hs : ∀ x, foldedSetIterable iter X.env x = pure x := by intro _; rfl) :
    PS X (.Assign [.Name y py] (.ListComp elt [⟨tg, iter, ifs, 0⟩] scope pos) spos) (sM c (sSet i (frzM (oComp src (own.map (·.2)) t tt te)))) :=
  ps_cq (ps_setLc hc hN hy hyl hsw hi ok hg ht he hs) fun Dd st H ⟨pa, H0, F0, F, r, okk, po⟩ => lc_ok hjs ⟨pa, H0, F0, F, r, okk, (Po.bind (Po.bind po)).mono (fun _ _ x => x) fun rv r1 q F1 H1 v k1 e1 dp => by
    cases rv with
    | v d =>
      obtain ⟨q, hi⟩ := setM_po q
      exact q F1 H1 _ (k1.setV hi dp) e1
    | o ct =>
      cases ct with
      | l ds =>
        obtain ⟨a, rfl, z1, z2, ⟨vs, z3, z4⟩, z5⟩ := dp
        have k2 := k1.frz z3 z2 z5.1 z1
        obtain ⟨q, hi⟩ := setM_po q
        exact q _ H1 _ (k2.setV hi (.lst (.inl (.inl upd_same)) (dpa_mono (Ex.new z1) z4))) (e1.trans (Ex.new z1))
      | t kvs => exact q.elim
      | n t =>
        obtain ⟨d, hd, q⟩ := opt_po' q
        obtain ⟨a, rfl, z⟩ := dp
        obtain ⟨F2, k2, eF, rp⟩ := k1.frzRv z hd
        obtain ⟨q, hi⟩ := setM_po q
        exact q F2 H1 _ (k2.setV hi rp) (e1.trans eF)
      | d kvs => exact q.elim⟩
/-! ### an own list compared -/
def eqD0 (d e : D) : Option D := if SeqAt.shaped d = true ∧ SeqAt.shaped e = true then some (.bool (PyData.eqv d e)) else none
def eqS (i : Nat) (mb : M D) : M D := fun r => match getC i r with
  | some (.l _) => (mb r).bind fun d r => match getC i r with
    | some (.l ds) => M.opt (eqD0 (.list ds) d) r
    | _ => .no
  | some (.d _) => .no
  | some (.t _) => .no
  | some (.n _) => .no
  | none => bin eqD (getS i) mb r
theorem eqS_ok {i : Nat} {x : Str} {mb : M D} {st : L2.St} {H : Hp} {Q : VK} (hK : c.K = X.K) (h : tM c (eqS i mb) st H Q) : (tOp (rEqD X.K) (tVar i) (tM c mb) st H Q) ∨ (tOp (rD2 c.K eqD) (tM c (getS i)) (tM c mb) st H Q) := by
  obtain ⟨pa, H0, F0, F, r, ok, po⟩ := h
  unfold eqS at po
  split at po
  · rename_i ds0 hg
    obtain ⟨s0, hs0, hso0⟩ := getC_some hg
    obtain ⟨a, hst, _⟩ := ok.ownd hs0 hso0
    refine .inl ⟨_, hst, pa, H0, F0, F, r, ok, (Po.bind po).mono (fun _ _ x => x) fun d r1 q F1 H1 v k1 e1 dp => ?_⟩
    split at q
    · rename_i ds hg1
      obtain ⟨s1, hs1, hso1⟩ := getC_some hg1
      obtain ⟨a1, hst1, nF1, n01, vs, hH1, hr1⟩ := k1.ownd hs1 hso1
      rw [hst] at hst1
      cases hst1
      obtain ⟨z, hz, q2⟩ := opt_po q
      have hz : (if SeqAt.shaped (.list ds) = true ∧ SeqAt.shaped d = true then some (PyData.bool (PyData.eqv (.list ds) d)) else none) = some z := by
        cases d <;> exact hz
      split at hz
      · rename_i hm
        cases hz
        exact ⟨_, d, by rw [← hK]; exact rp_dp (.lst (.inl (.inl hH1)) (dpa_mono k1.fH hr1)) hm.1, by rw [← hK]; exact rp_dp (dp_mono k1.fH dp) hm.2, hm.1, hm.2, q2 F1 H1 _ k1 e1 (.bl _)⟩
      · cases hz
    · exact q.elim
  · exact po.elim
  · exact po.elim
  · exact po.elim
  · exact .inr (bin_ok ⟨pa, H0, F0, F, r, ok, po⟩)
theorem pt_or' {e : Expr} {t t' : TT} (h : PT X e t) (h' : PT X e t') : PT X e (fun st H Q => t st H Q ∨ t' st H Q) := ⟨fun pins s st H Q I q => q.elim (h.run pins s st H Q I) (h'.run pins s st H Q I)⟩
theorem t_eqS (i : Nat) {x : Str} {b : Expr} {mb : M D} {px pos : Pos} (hb : PE X b (tM c mb)) (hu : X.A.units + 64 < cLine) (hK : c.K = X.K := by rfl) (hm : behindInMarks .Eq b = false := by first | exact nomark _ | rfl) (hN : X.N[i]? = some x := by rfl) (hv : Vis X.env.scope x := by first | exact Or.inl rfl | exact Or.inr (Or.inl rfl) | exact Or.inr (Or.inr rfl)) (hd : (x == ("__debug__" : Str)) = false := by decide)
    (hcd : (x == ("__classdict__" : Str)) = false := by decide) : PT X (.Compare (.Name x px) [.Eq] [b] pos) (tT c (tBool (eqS i mb))) :=
  pt_cq (pt_or' (pt_cmpR (op_eqD hu) (pe_var (i := i) hN hv hd hcd) hb hm) (pt_cmpR (eq_data hu hK) (e_var i hN hv hd hcd) hb hm)) fun st H Q h => by
    obtain ⟨pa, H0, F0, F, r, ok, po⟩ := h
    refine eqS_ok (x := x) hK ?_
    refine seqM ok po fun d r1 F1 H1 v k1 e1 dp q => ?_
    obtain ⟨b, hb, q⟩ := opt_po q
    cases dp with
    | bl b' =>
      cases hb
      exact ⟨_, rfl, q F1 H1 k1 e1⟩
    | _ => cases hb
def neS (i : Nat) (mb : M D) : M D := fun r => match getC i r with
  | some (.l _) => (mb r).bind fun d r => match getC i r with
    | some (.l ds) => M.opt (neD (.list ds) d) r
    | _ => .no
  | some (.d _) => .no
  | some (.t _) => .no
  | some (.n _) => .no
  | none => bin neD (getS i) mb r
theorem neS_ok {i : Nat} {x : Str} {mb : M D} {st : L2.St} {H : Hp} {Q : VK} (hK : c.K = X.K) (h : tM c (neS i mb) st H Q) : (tOp (rNeD X.K) (tVar i) (tM c mb) st H Q) ∨ (tOp (rD2 c.K neD) (tM c (getS i)) (tM c mb) st H Q) := by
  obtain ⟨pa, H0, F0, F, r, ok, po⟩ := h
  unfold neS at po
  split at po
  · rename_i ds0 hg
    obtain ⟨s0, hs0, hso0⟩ := getC_some hg
    obtain ⟨a, hst, _⟩ := ok.ownd hs0 hso0
    refine .inl ⟨_, hst, pa, H0, F0, F, r, ok, (Po.bind po).mono (fun _ _ x => x) fun d r1 q F1 H1 v k1 e1 dp => ?_⟩
    split at q
    · rename_i ds hg1
      obtain ⟨s1, hs1, hso1⟩ := getC_some hg1
      obtain ⟨a1, hst1, nF1, n01, vs, hH1, hr1⟩ := k1.ownd hs1 hso1
      rw [hst] at hst1
      cases hst1
      obtain ⟨z, hz, q2⟩ := opt_po q
      have hz : (if SeqAt.shaped (.list ds) = true ∧ SeqAt.shaped d = true then some (PyData.bool (!PyData.eqv (.list ds) d)) else none) = some z := by
        cases d <;> exact hz
      split at hz
      · rename_i hm
        cases hz
        exact ⟨_, d, by rw [← hK]; exact rp_dp (.lst (.inl (.inl hH1)) (dpa_mono k1.fH hr1)) hm.1, by rw [← hK]; exact rp_dp (dp_mono k1.fH dp) hm.2, hm.1, hm.2, q2 F1 H1 _ k1 e1 (.bl _)⟩
      · cases hz
    · exact q.elim
  · exact po.elim
  · exact po.elim
  · exact po.elim
  · exact .inr (bin_ok ⟨pa, H0, F0, F, r, ok, po⟩)
theorem t_neS (i : Nat) {x : Str} {b : Expr} {mb : M D} {px pos : Pos} (hb : PE X b (tM c mb)) (hu : X.A.units + 64 < cLine) (hK : c.K = X.K := by rfl) (hm : behindInMarks .NotEq b = false := by first | exact nomark _ | rfl) (hN : X.N[i]? = some x := by rfl) (hv : Vis X.env.scope x := by first | exact Or.inl rfl | exact Or.inr (Or.inl rfl) | exact Or.inr (Or.inr rfl)) (hd : (x == ("__debug__" : Str)) = false := by decide)
    (hcd : (x == ("__classdict__" : Str)) = false := by decide) : PT X (.Compare (.Name x px) [.NotEq] [b] pos) (tT c (tBool (neS i mb))) :=
  pt_cq (pt_or' (pt_cmpR (op_neD hu) (pe_var (i := i) hN hv hd hcd) hb hm) (pt_cmpR (ne_data hu hK) (e_var i hN hv hd hcd) hb hm)) fun st H Q h => by
    obtain ⟨pa, H0, F0, F, r, ok, po⟩ := h
    refine neS_ok (x := x) hK ?_
    refine seqM ok po fun d r1 F1 H1 v k1 e1 dp q => ?_
    obtain ⟨b, hb, q⟩ := opt_po q
    cases dp with
    | bl b' =>
      cases hb
      exact ⟨_, rfl, q F1 H1 k1 e1⟩
    | _ => cases hb
/-! ### a statement that is never come to -/
/-! ### a call without arguments -/
def cCall0 (f : List Sl → Re RV) : M RV := cCall f aNil
end
end Pu
namespace Pu
open PySem PySem.Spec PyProof.Rows L2
variable [TabT]
section
variable {X : Cx} {c : Cc}
/-! ### {} -/
def oDict0 : M RV := M.ret (.o (.d []))
theorem o_dict0 {pos : Pos} : PE X (.Dict [] [] pos) (tO c oDict0) :=
  pe_cq pe_dnewK fun st H Q ⟨pa, H0, F0, F, r, ok, po⟩ p np =>
    po F _ _ (ok.lay np) (Ex.refl F) ⟨p, rfl, ok.fH.nn np, ok.hH.nn np, ⟨[], upd_same, .nil⟩, .d (ok.nobody np).upd⟩
/-! ### bool, str -/
def boolD : D → Option D
  | .int i => some (.bool (i != 0))
  | .bool b => some (.bool b)
  | _ => none
/-! ### in, not in a list of data -/
noncomputable def inD : D → D → Option D
  | d, .list ds => cI (SeqAt.shaped d = true ∧ SeqAt.shaped (.list ds) = true) (some (.bool (ds.any fun z => PyData.eqv z d))) none
  | _, _ => none
noncomputable def ninD : D → D → Option D
  | d, .list ds => cI (SeqAt.shaped d = true ∧ SeqAt.shaped (.list ds) = true) (some (.bool (!ds.any fun z => PyData.eqv z d))) none
  | _, _ => none
/-! ### l.index(x) -/
noncomputable def indexD : D → D → Option D
  | .list ds, d => cI (SeqAt.shaped d = true ∧ SeqAt.shaped (.list ds) = true) ((ds.findIdx? fun z => PyData.eqv z d).map fun j => .int (j : Nat)) none
  | _, _ => none
noncomputable def eIndex (mo me : M D) : M D := mo.bind fun d => match d with
  | .list ds => me.bind fun b => M.opt (indexD (.list ds) b)
  | _ => M.no
/-! ### l.pop(i) -/
noncomputable def popD (ds : List D) : D → Option (D × List D)
  | .int n => cI (0 ≤ n ∧ n < 2 ^ 63) ((ds[n.toNat]?).map fun y => (y, ds.eraseIdx n.toNat)) none
  | _ => none
noncomputable def ePop (i : Nat) (m : M D) : M D := fun r => match getC i r with
  | some (.l _) => (m r).bind fun d r => match getC i r with
    | some (.l ds) => (match popD ds d with
      | some p => .ok p.1 (putC i (.l p.2) r)
      | none => .no)
    | _ => .no
  | _ => .no
end
end Pu
namespace Pu
open PySem PySem.Spec PyProof.Rows L2
variable [TabT]
/-! ### a dict of the module: text keys, whole numbers -/
def Tabl (K : PySem.W.Frag) (w : World) (mg : Str → Option Value) (x : Str) (kvs : List (Str × Int)) : Prop := ∃ d es n, mg x = some (.ref d) ∧ KDict K w d es n ∧ ∀ z, ∃ r, PySem.W.nsIn K d z = some r ∧ (match kvs.find? fun p => decide (p.1 = z) with
  | none => r = none
  | some p => ∃ t, r = some (.int p.2 t))
/-! ### len(set(a tuple of at most two numbers)) -/
/-! ### the head with such tables -/
def ent (e : DictEntry) : Option (Str × Int) := match e.key with
  | .str k _ => (match e.val with
    | .int i _ => some (k, i)
    | _ => none)
  | _ => none
def tabV (K : PySem.W.Frag) (x : Str) : Option (List (Option (Str × Int))) := match K.lookup (He.ga K x) with
  | some ⟨_, _, .dict es _, _⟩ => some (es.toList.map ent)
  | _ => none
theorem ent_find (z : Str) : ∀ {l : List DictEntry} {kvs : List (Str × Int)}, l.map ent = kvs.map some → l.any (·.refKey) = false ∧ (match kvs.find? fun p => decide (p.1 = z) with
  | none => l.find? (·.key.isStr z) = none
  | some p => ∃ e t, l.find? (·.key.isStr z) = some e ∧ e.val = .int p.2 t)
  | [], [], _ => ⟨rfl, rfl⟩
  | [], _ :: _, h => by cases h
  | _ :: _, [], h => by cases h
  | e :: l, p :: kvs, h => by
    have h1 : ent e :: l.map ent = some p :: kvs.map some := h
    injection h1 with h2 h3
    obtain ⟨g1, g2⟩ := ent_find z h3
    obtain ⟨eh, ek, ev⟩ := e
    unfold ent at h2
    cases ek with
    | str k t =>
      cases ev with
      | int i t2 =>
        have h4 : some (k, i) = some p := h2
        cases h4
        refine ⟨?_, ?_⟩
        · rw [List.any_cons, g1]
          rfl
        · by_cases hk : k = z
          · rw [List.find?_cons_of_pos (by simp [hk]), List.find?_cons_of_pos (by simp [Value.isStr, hk])]
            exact ⟨_, t2, rfl, rfl⟩
          · rw [List.find?_cons_of_neg (by simp [hk]), List.find?_cons_of_neg (by simp [Value.isStr, hk])]
            exact g2
      | _ => cases h2
    | _ => cases h2
abbrev Tbs := List (Str × List (Str × Int))
def tsOf (xs : Tbs) : List He.Tab := xs.map fun p => (fun K => He.ga K p.1, p.2.map (·.1))
abbrev AlS : Type := He.AlT × List (Option (List (Option (Str × Int))))
def obsS (fa : List He.Fa) (fn : List He.DefD) (xs : Tbs) (K : PySem.W.Frag) : AlS := (He.obsT fa fn (tsOf xs) K, xs.map fun p => tabV K p.1)
def valS (fn : List He.DefD) (xs : Tbs) (w : World) : AlS := (He.valT fn (tsOf xs) w, xs.map fun p => some (p.2.map some))
def SaysS (fa : List He.Fa) (fn : List He.DefD) (xs : Tbs) (w : World) (K : PySem.W.Frag) : Prop := obsS fa fn xs K = valS fn xs w
section
variable {fa : List He.Fa} {fn : List He.DefD} {xs : Tbs} {w : World} {K : PySem.W.Frag}
theorem SaysS.d (c : SaysS fa fn xs w K) : He.SaysD fa fn K := He.SaysT.d (congrArg (fun z : AlS => z.1) c)
theorem SaysS.tab (c : SaysS fa fn xs w K) (i : Nat) {p : Str × List (Str × Int)} {mg : Str → Option Value} (h : xs[i]? = some p) (hm : mg p.1 = some (.ref (He.ga K p.1))) : Tabl K w mg p.1 p.2 := by
  have c1 : He.SaysT fa fn (tsOf xs) w K := congrArg (fun z : AlS => z.1) c
  obtain ⟨es, n, Dd⟩ := c1.tab i (t := (fun K => He.ga K p.1, p.2.map (·.1))) (by unfold tsOf; rw [List.getElem?_map, h]; rfl)
  have e : (xs.map fun p => tabV K p.1) = xs.map fun p => some (p.2.map some) := congrArg (fun z : AlS => z.2) c
  have e2 : (xs.map fun p => tabV K p.1)[i]? = (xs.map fun p => some (p.2.map some))[i]? := by rw [e]
  rw [List.getElem?_map, List.getElem?_map, h] at e2
  have e3 : tabV K p.1 = some (p.2.map some) := Option.some.inj e2
  have hat := Dd.at_
  unfold tabV at e3
  rw [hat] at e3
  have e4 : es.toList.map ent = p.2.map some := Option.some.inj e3
  refine ⟨He.ga K p.1, es, n, hm, Dd, fun z => ?_⟩
  obtain ⟨g1, g2⟩ := ent_find z e4
  unfold PySem.W.nsIn
  rw [hat]
  cases hf : p.2.find? fun p => decide (p.1 = z) with
  | none =>
    rw [hf] at g2
    have g2 : es.toList.find? (·.key.isStr z) = none := g2
    refine ⟨none, ?_, rfl⟩
    simp only [g2, g1]
    rfl
  | some q =>
    rw [hf] at g2
    obtain ⟨e, t, h1, h2⟩ := g2
    refine ⟨some e.val, ?_, t, by rw [h2]⟩
    simp only [h1]
end
end Pu
namespace Pu
open PySem PySem.Spec PyProof.Rows L2
variable [TabT]
/-! ### zip of a list and a tuple -/
def ItM (K : PySem.W.Frag) (l t : Addr) : It where
  go := fun k Hh => ∃ (us ws : List V) (u v : V), (SqL K Hh l us ∧ us[k]? = some u) ∧ (SqT K Hh t ws ∧ ws[k]? = some v)
  yld := fun k Hh q Hn => ∃ (N : Addr) (u v : V), (q = .ref N ∧ Hh N = none ∧ Hn = upd Hh N (.tup [u, v])) ∧ (∀ us, SqL K Hh l us → us[k]? = some u) ∧ (∀ ws, SqT K Hh t ws → ws[k]? = some v)
  stop := fun k Hh => ∃ us ws : List V, (SqL K Hh l us ∧ SqT K Hh t ws) ∧ (k ≤ us.length ∧ k ≤ ws.length) ∧ (us.length = k ∨ ws.length = k)
def StM (zz ti to p1 p2 l t : Addr) (k : Nat) (hh : Heap) : Prop := (IsZip hh zz ti to .none ∧ IsTupOf2 hh ti (.ref p1) (.ref p2)) ∧ (∃ u v, IsTupOf2 hh to u v) ∧ (hh.IsListIter p1 l k ∧ hh.IsTupleIter p2 t k)
theorem five {zz ti to p1 p2 q : Addr} (h : q ∈ [zz, ti, to, p1, p2]) : q = zz ∨ q = ti ∨ q = to ∨ q = p1 ∨ q = p2 := by simpa using h
theorem turn_M {P : Program} {w : World} {K : PySem.W.Frag} {elts : List Expr} {kk : Nat} {tpos : Pos} {l t zz ti to p1 p2 : Addr} (S : ZipSep2 zz ti to p1 p2 [p1, l] [p2, t]) (n1 : l ≠ p1) (n2 : t ≠ p2) :
    Turn P w K (.Tuple elts kk tpos) (ItM K l t) [zz, ti, to, p1, p2] zz (StM zz ti to p1 p2 l t) where
  mem := List.mem_cons_self ..
  obj := fun k hh ⟨⟨a1, a2⟩, ⟨_, _, a3⟩, ⟨o1, e1, _, d1⟩, ⟨o2, e2, _, d2⟩⟩ q hq => by
    rcases five hq with rfl | rfl | rfl | rfl | rfl
    · exact ⟨_, a1, by simp⟩
    · exact ⟨_, a2, by simp⟩
    · exact ⟨_, a3, by simp⟩
    · exact ⟨o1, e1, by simp [d1]⟩
    · exact ⟨o2, e2, by simp [d2]⟩
  keep := fun k hh hn ⟨⟨a1, a2⟩, ⟨u, v, a3⟩, a4, a5⟩ kp => ⟨⟨kp zz (by simp) _ a1, kp ti (by simp) _ a2⟩, ⟨u, v, kp to (by simp) _ a3⟩, a4.at fun o => kp p1 (by simp) o, a5.at fun o => kp p2 (by simp) o⟩
  item := fun X hP hw hK hc k pins s σ Hh E I hf ⟨⟨a1, a2⟩, ⟨u0, v0, a3⟩, a4, a5⟩ ⟨us, ws, u, v, ⟨q1, g1⟩, q2, g2⟩ => by
    subst hP hw hK
    obtain ⟨is1, r1, b1, _⟩ := I.list q1
    obtain ⟨is2, r2, b2, _⟩ := I.tuple q2
    obtain ⟨x1, y1, c1⟩ := r1.get g1
    obtain ⟨x2, y2, c2⟩ := r2.get g2
    have m1 : k < is1.toArray.size := by simpa using (List.getElem?_eq_some_iff.mp y1).1
    have m2 : k < is2.toArray.size := by simpa using (List.getElem?_eq_some_iff.mp y2).1
    have hd : X.A.in1.handled = none := I.ok.hd hc
    have zl := Heap.lt_size a1
    refine wpAny_pyNext_zipD2_item S (Draws.list hd p1 l n1 is1.toArray) (Draws.tuple hd p2 t n2 is2.toArray) a1 a2 a3 ⟨a4, b1.isList⟩ ⟨a5, b2⟩ m1 m2 fun z1 z2 hn tk f1 f2 w1 w2 w3 w4 w5 w6 w7 => ?_
    have f1 : z1 = x1 := by
      have : is1.toArray[k]? = some x1 := by simpa using y1
      rw [this] at f1
      exact (Option.some.inj f1).symm
    have f2 : z2 = x2 := by
      have : is2.toArray[k]? = some x2 := by simpa using y2
      rw [this] at f2
      exact (Option.some.inj f2).symm
    subst f1 f2
    refine ⟨_, rfl, wpAny_letOwnedTupleGo_zip (s := { s with heap := hn, toks := tk }) w1 fun hq w8 sb => ?_⟩
    have nw := (sb.2 _ (Nat.ne_of_gt zl)).trans w5
    have Iq := I.turnedNew (t' := tk) (ch := [zz, ti, to, p1, p2]) (h' := hq) (ob := .tup [u, v]) (fun c o nb e => (sb.2 c fun ez => nb (by simp [ez])).trans (w7 c o (fun ez => nb (by simp [ez])) (fun ez => nb (by simp [ez])) (fun ez => nb (by simp [ez])) (fun ez => nb (by simp [ez])) e)) hf (Nat.le_refl _)
      ⟨by show 2 ≤ sizeLine; decide, [z1, z2], .cons c1 (.cons c2 .nil), ⟨_, nw, rfl, _, rfl⟩⟩
    refine ⟨.ref s.heap.objs.size, _, Iq, rfl, ⟨_, u, v, ⟨rfl, I.hok.fresh (Nat.le_refl _), rfl⟩, fun us' e => ?_, fun ws' e => ?_⟩, ⟨⟨w8, ?_⟩, ⟨z1, z2, ?_⟩, ?_, ?_⟩, fun c hm => ?_⟩
    · rw [I.list_inj e q1]
      exact g1
    · rw [I.tuple_inj e q2]
      exact g2
    · exact (sb.2 _ S.TIz).trans (w7 _ _ S.TIz S.TITO S.TIi1 S.TIi2 a2)
    · exact (sb.2 _ S.TOz).trans w2
    · exact w3.1.at fun o e => (sb.2 _ S.zi1.symm).trans e
    · exact w4.1.at fun o e => (sb.2 _ S.zi2.symm).trans e
    · have lt : c < s.heap.objs.size := by
        rcases five hm with rfl | rfl | rfl | rfl | rfl
        · exact zl
        · exact Heap.lt_size a2
        · exact Heap.lt_size a3
        · exact a4.elim fun o e => Heap.lt_size e.1
        · exact a5.elim fun o e => Heap.lt_size e.1
      rw [upd_ne (Nat.ne_of_lt lt)]
      exact (hf c hm).1
  done := fun X hP hw hK hc k pins s σ Hh E I hf ⟨⟨a1, a2⟩, ⟨u0, v0, a3⟩, a4, a5⟩ ⟨us, ws, ⟨q1, q2⟩, ⟨m1, m2⟩, m3⟩ => by
    subst hP hw hK
    obtain ⟨is1, r1, b1, _⟩ := I.list q1
    obtain ⟨is2, r2, b2, _⟩ := I.tuple q2
    have l1 := r1.length
    have l2 := r2.length
    have hd : X.A.in1.handled = none := I.ok.hd hc
    refine wpAny_pyNext_zipD2_end S (Draws.list hd p1 l n1 is1.toArray) (Draws.tuple hd p2 t n2 is2.toArray) a1 a2 a3 ⟨a4, b1.isList⟩ ⟨a5, b2⟩ (by simp; omega) (by simp; omega) (by simp; omega) fun hn tk kp => ?_
    exact ⟨rfl, I.turnedL (t' := tk) (ch := [zz, ti, to, p1, p2]) (fun c o nb e => kp c o (fun ez => nb (by simp [ez])) (fun ez => nb (by simp [ez])) (fun ez => nb (by simp [ez])) (fun ez => nb (by simp [ez])) e) hf⟩
  self := fun A k s Q E st hq => wpAny_pyIter_zip st.1.1 hq
def iZipM (K : PySem.W.Frag) (ta : TA) : TI := fun σ Hh R => ta σ Hh fun vs Hn => ∃ l t us ws, vs = [.ref l, .ref t] ∧ (SqL K Hn l us ∧ SqT K Hn t ws) ∧ R (ItM K l t) Hn
theorem pi_zipM {X : Cx} {e e2 : Expr} {ta : TA} {p pos tpos : Pos} {elts : List Expr} {kk : Nat} (hg : Gl X "zip") (hm : X.mg "zip" = none) (ha : PA X [e, e2] ta) (hs : starEach [e, e2] X.env = (false, eval e X.env) :: starEach [e2] X.env)
    (hpl : (backTo pos (starEach [e2] X.env)).any (·.1) = false) : PI X (.Tuple elts kk tpos) (.Call (.Name "zip" p) [e, e2] [] pos) (iZipM X.K ta) := by
  refine ⟨fun pins s σ Hh R I h0 => Call_ (ld_blt I hg hm PyProof.Rows.boot_zip (PyProof.Rows.callWith_type1 (thn (ha.run pos pins s σ Hh _ I h0) fun us sn ⟨vs, Hn, In, rn, q⟩ => ?_) hs hpl))⟩
  obtain ⟨l, t, xs, ys, rfl, ⟨q1, q2⟩, q3⟩ := q
  obtain ⟨is1, r1, b1, _⟩ := In.list q1
  obtain ⟨is2, r2, b2, _⟩ := In.tuple q2
  cases rn with
  | cons ra rr =>
    cases rr with
    | cons rb rr =>
      cases rr
      cases ra
      cases rb
      have ltl : l < sn.heap.objs.size := b1.lt
      have ltt : t < sn.heap.objs.size := by
        obtain ⟨o, e, _⟩ := b2
        exact Heap.lt_size e
      refine zip_begins2 (begins_list l is1.toArray) (begins_tuple t is2.toArray) b1.isList b2 fun hn a1 a2 a3 a4 a5 a6 a7 => wpAny_pyIter_zip a1 ?_
      have I2 : Inv X pins σ Hn { sn with heap := hn } := In.kept (t' := sn.toks) a7
      refine ⟨sn.heap.objs.size + 4, [sn.heap.objs.size + 4, sn.heap.objs.size + 2, sn.heap.objs.size + 3, sn.heap.objs.size, sn.heap.objs.size + 1], StM (sn.heap.objs.size + 4) (sn.heap.objs.size + 2) (sn.heap.objs.size + 3) sn.heap.objs.size (sn.heap.objs.size + 1) l t, _, Hn, rfl, I2,
        turn_M (zip_sep2 (by simpa using ltl) (by simpa using ltt)) (Nat.ne_of_lt ltl) (Nat.ne_of_lt (Nat.lt_succ_of_lt ltt)), ⟨⟨a1, a2⟩, ⟨_, _, a3⟩, ⟨_, a4, rfl, rfl⟩, ⟨_, a5, rfl, rfl⟩⟩, fun c hc => ?_, q3⟩
      have le : sn.heap.objs.size ≤ c := by
        rcases five hc with rfl | rfl | rfl | rfl | rfl
        · exact Nat.le_add_right _ _
        · exact Nat.le_add_right _ _
        · exact Nat.le_add_right _ _
        · exact Nat.le_refl _
        · exact Nat.le_add_right _ _
      exact In.fpOk le (In.hok.fresh le)
theorem yl_zipM {K : PySem.W.Frag} {F : Hp} {l t : Addr} {vs ws : List V} {ds es : List D} (h : SqL K F l vs) (hr : RpAll K F vs ds) (h' : SqT K F t ws) (hr' : RpAll K F ws es) : Yl K F (ItM K l t) (zipD ds es) where
  go := fun i H hi e => by
    rw [zipD_len] at hi
    have l1 := dpa_len hr
    have l2 := dpa_len hr'
    exact ⟨vs, ws, vs[i]'(by omega), ws[i]'(by omega), ⟨e.l h, List.getElem?_eq_getElem (by omega)⟩, e.t h', List.getElem?_eq_getElem (by omega)⟩
  stop := fun H e => ⟨vs, ws, ⟨e.l h, e.t h'⟩, by
    rw [zipD_len, dpa_len hr, dpa_len hr']
    omega⟩
  yld := fun i H x H' d hd e ⟨T, y1, y2, ⟨e1, nT, e2⟩, q1, q2⟩ => by
    obtain ⟨d1, d2, g1, g2, rfl⟩ := zipD_some hd
    obtain ⟨v, h2, h3⟩ := dpa_get hr g1
    obtain ⟨w, h4, h5⟩ := dpa_get hr' g2
    have z1 := h2.symm.trans (q1 vs (e.l h))
    have z2 := h4.symm.trans (q2 ws (e.t h'))
    cases z1
    cases z2
    exact .inr ⟨T, _, _, e1, nT, e2, rfl, .cons h3 (.cons h5 .nil)⟩
def zipMx : List D → Option (List D)
  | [.list xs, .tuple ys] => some (zipD xs ys)
  | [.list xs, .list ys] => some (zipD xs ys)
  | [.tuple xs, .tuple ys] => some (zipD xs ys)
  | _ => none
section
variable {X : Cx} {c : Cc}
theorem pi_or' {tg iter : Expr} {t1 t2 : TI} (h1 : PI X tg iter t1) (h2 : PI X tg iter t2) : PI X tg iter (fun st H R => t1 st H R ∨ t2 st H R) := ⟨fun pins s st H R I q => q.elim (h1.run pins s st H R I) (h2.run pins s st H R I)⟩
theorem i_zipM {e e2 : Expr} {ms : M (List D)} {p pos tpos : Pos} {elts : List Expr} {kk : Nat} (ha : PA X [e, e2] (tA c ms)) (hm : X.mg "zip" = none) (hK : c.K = X.K := by rfl) (hg : Gl X "zip" := by rfl) (hs : starEach [e, e2] X.env = (false, eval e X.env) :: starEach [e2] X.env := by rfl)
    (hpl : (backTo pos (starEach [e2] X.env)).any (·.1) = false := by rfl) : PI X (.Tuple elts kk tpos) (.Call (.Name "zip" p) [e, e2] [] pos) (iM c (iBy zipMx ms)) :=
  pi_cq (pi_or' (pi_zipM hg hm ha hs hpl) (i_zip (c := c) ha hm hK hg hs hpl)) fun st H R ⟨pa, H0, F0, F, r, ok, po⟩ => by
    have po : Po (XW c pa H0 F0 F) (((ms.bind fun ds => M.opt (zipMx ds)) : M (List D)) r) _ := po
    have po := Po.bind po
    cases hr : ms r with
    | no =>
      rw [hr] at po
      exact po.elim
    | ex x r1 =>
      rw [hr] at po
      exact .inl ⟨pa, H0, F0, F, r, ok, by rw [hr]; exact po⟩
    | ok ds r1 =>
      rw [hr] at po
      obtain ⟨xs, hx, q⟩ := opt_po (show Po _ (M.opt (zipMx ds) r1) _ from po)
      by_cases hz : zipOf ds = some xs
      · refine .inr ⟨pa, H0, F0, F, r, ok, ?_⟩
        show Po _ (((ms.bind fun ds => M.opt (zipOf ds)) : M (List D)) r) _
        rw [M.bind_ap, hr, Re.bind_ok, hz]
        exact q
      · refine .inl ⟨pa, H0, F0, F, r, ok, ?_⟩
        rw [hr]
        intro F1 H1 vs k1 e1 dps
        unfold zipMx at hx
        split at hx
        · cases hx
          obtain ⟨v, w, rfl, d, d2⟩ := rpa_two dps
          cases d with
          | @lst a us _ h1 h2 =>
            cases d2 with
            | @tup b ws _ h3 h4 => exact ⟨a, b, us, ws, rfl, ⟨by rw [← hK]; exact k1.fH.l h1, by rw [← hK]; exact k1.fH.t h3⟩, q F1 H1 _ k1 e1 (by rw [← hK]; exact yl_zipM h1 h2 h3 h4)⟩
        · exact absurd hx hz
        · exact absurd hx hz
        · cases hx
end
end Pu
namespace Pu
open PySem PySem.Spec PyProof.Rows L2
variable [TabT]
/-! ### an object that stands already is tracked -/
structure Newly (X : Cx) (pins : List (Addr × Obj)) (a : Addr) : Prop where
  loc : a ≠ X.env.locals
  cel : ∀ x c, X.env.cells.lookup x = some c → c ≠ a
  pin : ∀ p ∈ X.pn ++ pins, p.1 ≠ a
  old : X.s_0.heap.get? a = none
theorem Newly.of {X : Cx} {pins : List (Addr × Obj)} {st : L2.St} {H : Hp} {s : Shared} {a : Addr} (I : Inv X pins st H s) (h : s.heap.get? a = none) (hx : X.ex = []) : Newly X pins a where
  loc := fun z => by
    obtain ⟨m, ⟨o, es, ep, q, _⟩, _⟩ := I.loc
    rw [← z, h] at q
    cases q
  cel := fun x c e z => by
    obtain ⟨v, o, q, _⟩ := I.cell x c e
    rw [z, h] at q
    cases q
  pin := fun p hp z => by
    obtain ⟨q, _⟩ := I.pin p hp
    rw [z, h] at q
    cases q
  old := by
    cases q : X.s_0.heap.get? a with
    | none => rfl
    | some o =>
      obtain ⟨o', q2⟩ := I.base.there a o q (by rw [hx]; simp)
      rw [h] at q2
      cases q2
/-! ### try: .. except x as n: y = n -/
/-! ### the classes of the program -/
def houseE : Str := "HouseError"
def isB (nm y : Str) : Bool := decide (nm = y) || decide (y = houseE)
/-! ### the rules -/
def sRaise (nm : Str) : M Fl := fun r => .ex ⟨nm, []⟩ r
def exOf (e : Exn) : D := .dict ((.str e.name, .none) :: e.flds.map fun p => (.str p.1, p.2))
/-- try: body, except HouseError as (slot j): (slot i) = it -/
def sTry (ns : List Str) (j i : Nat) (mb : M Fl) : M Fl := fun r => match mb r with
  | .ex e r1 => if e.name ∈ ns then (match (setN j (.v (exOf e)) r1).bind (setN i (.v (exOf e))) with
    | some r2 => .ok .nx (r2.set j .unk)
    | none => .no) else .no
  | x => x
def isED (ns : List Str) (y : Str) : D → Option D
  | .dict ((.str nm, .none) :: _) => if nm ∈ ns then some (.bool (isB nm y)) else none
  | _ => none
def isEV (ns : List Str) : D → Option D
  | .dict ((.str nm, .none) :: _) => if nm ∈ ns then some (.bool true) else none
  | _ => none
def isET (ns : List Str) (ys : List Str) : D → Option D
  | .dict ((.str nm, .none) :: _) => if nm ∈ ns then some (.bool (ys.any fun y => isB nm y)) else none
  | _ => none
/-! ### isinstance with a tuple of classes -/
/-! ### the head with one more Bool -/
abbrev AlB : Type := He.AlD × Bool
def SaysB (fa : List He.Fa) (fn : List He.DefD) (ex : PySem.W.Frag → Bool) (K : PySem.W.Frag) : Prop := He.SaysD fa fn K ∧ ex K = true
end Pu
namespace Pu
open PySem PySem.Spec PyProof.Rows L2
variable [TabT]
/-! ### zip of three tuples -/
def zip3D : List D → List D → List D → List D
  | x :: xs, y :: ys, z :: zs => .tuple [x, y, z] :: zip3D xs ys zs
  | _, _, _ => []
def zip3Of : List D → Option (List D)
  | [.tuple xs, .tuple ys, .tuple zs] => some (zip3D xs ys zs)
  | _ => none
/-! ### x.insert(n, e) -/
noncomputable def sInsert (i : Nat) (mk m : M D) : M Fl := fun r => match getC i r with
  | some (.l _) => (mk r).bind fun k r => (m r).bind fun d r => match k, getC i r with
    | .int n, some (.l ds) => cI (ds.length < 16777216 ∧ 0 ≤ n ∧ n < 2 ^ 63) (.ok .nx (putC i (.l (ds.take n.toNat ++ [d] ++ ds.drop n.toNat)) r)) .no
    | _, _ => .no
  | _ => .no
end Pu
namespace L2
open PySem PySem.Spec PyProof.Rows
end L2
namespace Pu
open PySem PySem.Spec PyProof.Rows L2
variable [TabT]
/-! ### sorted(set(a list of ints)) -/
def unaO (g : D → Option (List D)) (ma : M D) : M RV := ma.bind fun x => M.opt ((g x).map fun z => .o (.l z))
/-! ### sorted(a list of ints) -/
def insS (k : Int) : List Int → List Int
  | [] => [k]
  | x :: xs => if k ≤ x then k :: x :: xs else x :: insS k xs
def isort : List Int → List Int
  | [] => []
  | k :: ks => insS k (isort ks)
def sortD : List D → Option (List D)
  | [.list ds] => (intsOf ds).map fun ns => (isort ns).map .int
  | _ => none
end Pu
namespace Pu
open PySem PySem.Spec PyProof.Rows L2
variable [TabT]
/-! ### the fields of a caught exception -/
/-! ### HouseError.__init__(self, ..) -/
/-! ### the own __init__ of an exception: its fields are its parameters -/
def sRaiseF (nm : Str) (fs : List Str) (ms : M (List D)) : M Fl := ms.bind fun ds => fun r => if ds.length = fs.length then .ex ⟨nm, (fs.zip ds).reverse⟩ r else .no
/-! ### the head with the statics -/
end Pu
namespace Pu
open PySem PySem.Spec PyProof.Rows L2
/-! ### the tables of the defs that make lambdas -/
/-- the code object and its table of the global def x -/
def tabP (K : PySem.W.Frag) (x : Str) : Option (Addr × Addr) := match K.lookup (He.ga K x) with
  | some ⟨_, _, .func fd, _⟩ => (match fd.code with
    | .ref c => (match K.lookup c with
      | some ⟨_, _, .fields vs, _⟩ => (match (vs[11]? : Option Value) with
        | some (.ref P) => some (c, P)
        | _ => none)
      | _ => none)
    | _ => none)
  | _ => none
def lamQ (x : Str) : Str := (x ++ ".<locals>.") ++ "<lambda>"
def tabsN (ln : List Str) (K : PySem.W.Frag) : List (Addr × Str) := ln.filterMap fun x => (tabP K x).map fun p => (p.2, lamQ x)
def csN (ln : List Str) (K : PySem.W.Frag) : List (Addr × Addr) := ln.filterMap (tabP K)
def emptyT : Option Obj → Bool
  | some ⟨.none, none, .fields vs, sl⟩ => vs.isEmpty && sl.isEmpty
  | _ => false
theorem emptyT_ok {o : Option Obj} (h : emptyT o = true) : o = some { cls := .none, data := .fields #[] } := by
  unfold emptyT at h
  split at h
  · simp only [Bool.and_eq_true, Array.isEmpty_iff] at h
    obtain ⟨rfl, rfl⟩ := h
    rfl
  · cases h
def lamB (ln : List Str) (K : PySem.W.Frag) (g : Addr → Option Obj) : Bool := (ln.all fun x => match tabP K x with
  | some (c, P) => PySem.W.codeHdIn K c P && ((K.lookup P).isNone && emptyT (g P))
  | none => false) && (tabsN ln K).all fun p => (tabsN ln K).all fun q => !(p.1 == q.1) || p.2 == q.2
structure LamOk (ln : List Str) (K : PySem.W.Frag) (h : Heap) : Prop where
  at_ : ∀ x ∈ ln, ∃ c P, tabP K x = some (c, P) ∧ PySem.W.codeHdIn K c P = true ∧ K.lookup P = none ∧ h.get? P = some { cls := .none, data := .fields #[] }
  un : ∀ p ∈ tabsN ln K, ∀ q ∈ tabsN ln K, p.1 = q.1 → p.2 = q.2
theorem lamB_ok {ln : List Str} {K : PySem.W.Frag} {h : Heap} (e : lamB ln K h.get? = true) : LamOk ln K h := by
  unfold lamB at e
  simp only [Bool.and_eq_true, List.all_eq_true] at e
  obtain ⟨e1, e2⟩ := e
  refine ⟨fun x hx => ?_, fun p hp q hq z => ?_⟩
  · have q := e1 x hx
    cases ht : tabP K x with
    | none =>
      rw [ht] at q
      cases q
    | some cp =>
      obtain ⟨c, P⟩ := cp
      rw [ht] at q
      simp only [Bool.and_eq_true] at q
      obtain ⟨q1, q2, q3⟩ := q
      exact ⟨c, P, rfl, q1, Option.isNone_iff_eq_none.mp q2, emptyT_ok q3⟩
  · have y := e2 p hp q hq
    simp only [Bool.or_eq_true, Bool.not_eq_true', beq_iff_eq, beq_eq_false_iff_ne] at y
    rcases y with y | y
    · exact absurd z y
    · exact y
theorem LamOk.keeps {ln : List Str} {K : PySem.W.Frag} {h h' : Heap} (l : LamOk ln K h) (k : ∀ b o, h.get? b = some o → h'.get? b = some o) : LamOk ln K h' := ⟨fun x hx => by
  obtain ⟨c, P, q1, q2, q3, q4⟩ := l.at_ x hx
  exact ⟨c, P, q1, q2, q3, k _ _ q4⟩, l.un⟩
def asL (g : Addr → Option Obj) (n : Nat) (ln : List Str) : List Addr :=
  let as := He.asD g n ++ [cStatics]
  let ts := (csN ln (He.frG g as)).map (·.2)
  as.filter fun a => !ts.contains a
def obsLG (n : Nat) (fa : List He.Fa) (fn : List He.DefD) (ex : PySem.W.Frag → Bool) (ln : List Str) (g : Addr → Option Obj) : AlB := (He.obsD fa fn (He.frG g (asL g n ln)), ex (He.frG g (asL g n ln)) && lamB ln (He.frG g (asL g n ln)) g)
def hookL (n : Nat) (fa : List He.Fa) (fn : List He.DefD) (ex : PySem.W.Frag → Bool) (ln : List Str) : PySem.W.Hook where
  α := AlB
  obs := fun s => obsLG n fa fn ex ln s.heap.get?
  val := fun _ => (He.valD fn, true)
  says := fun _ h => ∃ K : PySem.W.Frag, K.In h ∧ SaysB fa fn ex K ∧ LamOk ln K h
  of := fun _ _ e => by
    have e2 := congrArg (fun z : AlB => z.2) e
    have e2 := Bool.and_eq_true_iff.mp e2
    exact ⟨_, He.frG_in, ⟨congrArg (fun z : AlB => z.1) e, e2.1⟩, lamB_ok e2.2⟩
  keeps := fun _ _ _ ⟨K, hK, c, l⟩ k => ⟨K, PySem.W.Frag.In.keeps hK k, c, l.keeps k⟩
theorem obsLG_eq {n : Nat} {fa : List He.Fa} {fn : List He.DefD} {ex : PySem.W.Frag → Bool} {ln : List Str} {g : Addr → Option Obj} {s : Shared} (h : ∀ a, g a = s.heap.get? a) : obsLG n fa fn ex ln g = (hookL n fa fn ex ln).obs s := by
  have e : g = s.heap.get? := funext h
  rw [e] <;> rfl
/-- what the law's start is told of the tables -/
theorem LamOk.cs {ln : List Str} {K : PySem.W.Frag} {h : Heap} (l : LamOk ln K h) (X : K.In h) : (∀ p ∈ csN ln K, h.get? p.2 = some { cls := .none, data := .fields #[] }) ∧ (∀ p ∈ csN ln K, K.lookup p.2 = none) ∧ (∀ p ∈ csN ln K, PySem.W.CodeHd h p.1 p.2) := by
  have key : ∀ p ∈ csN ln K, PySem.W.codeHdIn K p.1 p.2 = true ∧ K.lookup p.2 = none ∧ h.get? p.2 = some { cls := .none, data := .fields #[] } := fun p hp => by
    obtain ⟨x, hx, e⟩ := List.mem_filterMap.mp hp
    obtain ⟨c, P, q1, q2, q3, q4⟩ := l.at_ x hx
    rw [q1] at e
    cases e
    exact ⟨q2, q3, q4⟩
  exact ⟨fun p hp => (key p hp).2.2, fun p hp => (key p hp).2.1, fun p hp => PySem.W.codeHd_of_K X (key p hp).1⟩
theorem tabs_start {ln : List Str} {K : PySem.W.Frag} {H : Hp} (h : ∀ p ∈ csN ln K, H p.2 = some (.tbl #[])) : LamX.Tabs (tabsN ln K) H := fun p hp => by
  obtain ⟨x, hx, e⟩ := List.mem_filterMap.mp hp
  cases ht : tabP K x with
  | none =>
    rw [ht] at e
    cases e
  | some cp =>
    rw [ht] at e
    cases e
    exact LamX.TabS.nil (h cp (List.mem_filterMap.mpr ⟨x, hx, ht⟩))
/-! ### the lambda called, with no guard under way -/
/-! ### the def that calls the lambda inside its try -/
section
open LamX
variable [TabT]
/-! ### x(lambda: E) -/
/-- the lambda sees data alone -/
def hideS : Sl → Sl
  | .v d => .v d
  | _ => .unk
def lamRes (r1 : En) : Re Fl → Re RV
  | .ok (.rt rv) _ => .ok rv r1
  | .ok .nx _ => .ok (.v .none) r1
  | _ => .no
def cLam (ns : List Str) (n i : Nat) (br : M Fl) (th : M D) : M RV := fun r => match th (r.map hideS) with
  | .ok _ _ => lamRes r (br ((List.replicate n Sl.unk).set i (.v .none)))
  | .ex e _ => if e.name ∈ ns then lamRes r (br ((List.replicate n Sl.unk).set i (.v (exOf e)))) else .no
  | .no => .no
end
end Pu
namespace Pu
open PySem PySem.Spec PyProof.Rows L2
variable [TabT]
section
variable {X : Cx} {c : Cc}
/-! ### l.remove(x), l.count(x) over data -/
def rRemD (K : PySem.W.Frag) : V → List V → Hp → VK → Prop := fun x xs H Q => ∃ (l : Addr) (vs : List V) (ds : List D) (y : V) (d : D) (j : Nat), x = .ref l ∧ xs = [y] ∧ H l = some (.lst vs) ∧ DpAll K H vs ds ∧ Dp K H y d ∧ SeqAt.shaped (.list ds) = true ∧ SeqAt.shaped d = true ∧ SeqAt.dataPlace ds d = some j ∧ Q .non (upd H l (.lst (vs.eraseIdx j)))
theorem mt_removeD (hu : X.A.units + 65 < cLine) : MtM X "list.remove" (rRemD X.K) := by
  intro pins s σ H x xs v us Q I rx rxs h
  obtain ⟨l, vs, ds, y, d, j, rfl, rfl, hH, ha, hy, sl, sd, hp, q⟩ := h
  cases rx
  cases rxs with
  | cons ry rt =>
    rename_i uy ut
    cases rt
    obtain ⟨bs, r1⟩ := Dp.reads I d y uy hy ry
    have hxs : PyData.canLayAll0 ds = true := SeqAt.canLay_of_shaped sl
    have hroom : X.A.units + 1 + min (PyData.depthAll ds) d.depth < cLine := room_in_shaped sd hu
    obtain ⟨z, its, n, r, hl, e⟩ := I.lstM hH
    obtain ⟨as, h4⟩ := Dp.readsAll I ds _ its ha r
    have h4' : ReadsAll s.heap its.toArray.toList ds as := h4
    have hpl := PyData.plainAll_of_canLay0 ds hxs
    obtain ⟨hj, hit, hno⟩ := SeqAt.hit_at (d := d) h4' hpl hp
    refine call_meets PySem.F.slot_list_remove ⟨_, e, rfl⟩ PySem.F.entry_list_remove (PySem.F.args_list_remove_2 _ _)
      (SeqAt.list_removeAt l its.toArray n none #[] uy (fun u => PyData.eqv (SeqAt.readOf s.heap u) d) j hj hit hno (by rw [List.size_toArray]; omega)) ⟨e, SeqAt.items_eqAt (vs := its.toArray) h4' r1 hxs (SeqAt.canLay_of_shaped sd) hroom, ?_⟩
    have rr := r.eraseIdx j
    refine ⟨.non, _, I.lset (its' := its.eraseIdx j) (t' := s.toks) hH e ?_ rr ?_, rfl, q⟩
    · show its.toArray.eraseIdxIfInBounds j = (its.eraseIdx j).toArray
      rw [List.eraseIdxIfInBounds_toArray]
    · have := List.length_eraseIdx_le vs j
      omega
noncomputable def eRemove (i : Nat) (m : M D) : M D := fun r => match getC i r with
  | some (.l _) => (m r).bind fun d r => match getC i r with
    | some (.l ds) => cI (SeqAt.shaped d = true ∧ SeqAt.shaped (.list ds) = true ∧ (SeqAt.dataPlace ds d).isSome = true) (.ok .none (putC i (.l (ds.eraseIdx ((SeqAt.dataPlace ds d).getD 0))) r)) .no
    | _ => .no
  | _ => .no
theorem cI_po {α : Type} {p : Prop} {x : Re α} {Xp : Exn → En → Prop} {k : α → En → Prop} (h : Po Xp (cI p x .no) k) : p ∧ Po Xp x k := by
  by_cases hp : p
  · have e : cI p x .no = x := by unfold cI; exact if_pos hp
    rw [e] at h
    exact ⟨hp, h⟩
  · have e : cI p x .no = .no := by unfold cI; exact if_neg hp
    rw [e] at h
    exact h.elim
theorem e_remove {k : Nat} (i : Nat) {x : Str} {e : Expr} {m : M D} {px apos cpos : Pos} (h : PE X e (tM c m)) (hr : Rm k X.A) (hK : c.K = X.K := by rfl) (hN : X.N[i]? = some x := by rfl) (hv : Vis X.env.scope x := by first | exact Or.inl rfl | exact Or.inr (Or.inl rfl) | exact Or.inr (Or.inr rfl)) (hd : (x == ("__debug__" : Str)) = false := by decide)
    (hcd : (x == ("__classdict__" : Str)) = false := by decide) (hs1 : starEach [e] X.env = [(false, eval e X.env)] := by rfl)
    (hbase : attributeBase (.Name x px) "remove" X.env (eval (.Name x px) X.env) = eval (.Name x px) X.env := by rfl)
    (hfew : ((backTo cpos (starEach [e] X.env)).all (fun x => !x.1) && (backToKw cpos (keywordEach [] X.env)).all (fun x => x.1.isSome) && decide (([e] : List Expr).length + ([] : List Keyword).length + (if ([] : List Keyword).isEmpty then 0 else 1) < 30)) = true := by rfl)
    (hline : (apos.endLine == cpos.line) = true := by rfl) (hplain : (backTo cpos (starEach [] X.env)).any (·.1) = false := by rfl) :
    PE X (.Call (.Attribute (.Name x px) "remove" apos) [e] [] cpos) (tM c (eRemove i m)) :=
  pe_cq (pe_bm PySem.F.plainAttrs_list PySem.F.slot_list_remove PySem.F.type_list_remove (mt_removeD hr.in65) (pe_var (i := i) hN hv hd hcd) (pa_cons h pa_nil hs1) hbase hfew hline hs1 hplain) fun st H Q ⟨pa, H0, F0, F, r, ok, po⟩ => by
    unfold eRemove at po
    split at po
    · rename_i ds0 hg
      obtain ⟨s0, hs0, hso0⟩ := getC_some hg
      obtain ⟨a, hst, nF, n0, vs0, hH0, hr0⟩ := ok.ownd hs0 hso0
      refine ⟨_, hst, .inl ⟨rfl, vs0, .inl (.inl hH0)⟩, ?_⟩
      refine ⟨pa, H0, F0, F, r, ok, (Po.bind po).mono (fun _ _ x => x) fun d r1 q F1 H1 v k1 e1 dp => ?_⟩
      split at q
      · rename_i ds hg1
        obtain ⟨s1, hs1, hso1⟩ := getC_some hg1
        obtain ⟨a1, hst1, nF1, n01, vs, hH1, hr1⟩ := k1.ownd hs1 hso1
        rw [hst] at hst1
        cases hst1
        obtain ⟨⟨g1, g2, g3⟩, q⟩ := cI_po q
        obtain ⟨j, hj⟩ := Option.isSome_iff_exists.mp g3
        rw [hj] at q
        refine ⟨a, vs, ds, v, d, j, rfl, rfl, hH1, ?_, by rw [← hK]; exact rp_dp (dp_mono k1.fH dp) g1, g2, g1, hj, ?_⟩
        · rw [← hK]
          exact rpa_dpa0 (dpa_mono k1.fH hr1) (PyData.hasDict_of_canLay (.list ds) (SeqAt.canLay_of_shaped g2))
        · exact q F1 _ _ (k1.putC hg1 hst ⟨_, upd_same, dpa_erase _ hr1⟩) e1 .non
      · exact q.elim
    · exact po.elim
noncomputable def countD : D → D → Option D
  | .list ds, d => cI (SeqAt.shaped d = true ∧ SeqAt.shaped (.list ds) = true) (some (.int ((ds.countP fun z => PyData.eqv z d : Nat) : Int))) none
  | _, _ => none
noncomputable def eCount (mo me : M D) : M D := mo.bind fun d => match d with
  | .list ds => me.bind fun b => M.opt (countD (.list ds) b)
  | _ => M.no
/-! ### d.get(k, x) of an owned dict -/
def eGet (i : Nat) (mk mx : M D) : M D := fun r => match getC i r with
  | some (.d _) => (mk r).bind fun k r => (mx r).bind fun x r => (match getC i r with
    | some (.d kvs) => (match keyD k with
      | some y => .ok ((vK kvs y).getD x) r
      | none => .no)
    | _ => .no)
  | _ => .no
theorem e_get (i : Nat) {x : Str} {e f : Expr} {mk mx : M D} {px apos cpos : Pos} (h : PE X e (tM c mk)) (hf : PE X f (tM c mx)) (hu : X.A.units + 1 < cLine) (hN : X.N[i]? = some x := by rfl) (hv : Vis X.env.scope x := by first | exact Or.inl rfl | exact Or.inr (Or.inl rfl) | exact Or.inr (Or.inr rfl)) (hd : (x == ("__debug__" : Str)) = false := by decide)
    (hcd : (x == ("__classdict__" : Str)) = false := by decide)
    (hbase : attributeBase (.Name x px) "get" X.env (eval (.Name x px) X.env) = eval (.Name x px) X.env := by rfl)
    (hfew : ((backTo cpos (starEach [e, f] X.env)).all (fun x => !x.1) && (backToKw cpos (keywordEach [] X.env)).all (fun x => x.1.isSome) && decide (([e, f] : List Expr).length + ([] : List Keyword).length + (if ([] : List Keyword).isEmpty then 0 else 1) < 30)) = true := by rfl)
    (hline : (apos.endLine == cpos.line) = true := by rfl) (htr : backTo cpos (starEach [e, f] X.env) = [(false, eval e X.env), (false, eval f X.env)] := by rfl) :
    PE X (.Call (.Attribute (.Name x px) "get" apos) [e, f] [] cpos) (tM c (eGet i mk mx)) :=
  pe_cq (pe_dget2 hu (pe_var (i := i) hN hv hd hcd) h hf ⟨hbase, hfew, hline, htr⟩) fun st H Q ⟨pa, H0, F0, F, r, ok, po⟩ => by
    unfold eGet at po
    split at po
    · rename_i kv0 hg
      obtain ⟨s0, hs0, hso0⟩ := getC_some hg
      obtain ⟨a, hst, nF, n0, ks0, hH0, hr0⟩ := ok.ownd hs0 hso0
      refine ⟨_, hst, a, rfl, .inl ⟨ks0, .inl hH0⟩, ?_⟩
      refine ⟨pa, H0, F0, F, r, ok, (Po.bind po).mono (fun _ _ x => x) fun kd r1 q F1 H1 v k1 e1 dp => ?_⟩
      refine ⟨pa, H0, F0, F1, r1, k1, (Po.bind q).mono (XW.mono e1) fun xd r2 q F2 H2 z k2 e2 dq => ?_⟩
      split at q
      · rename_i kvs hg1
        obtain ⟨s1, hs1, hso1⟩ := getC_some hg1
        obtain ⟨a1, hst1, nF1, n01, ks, hH1, hr1⟩ := k2.ownd hs1 hso1
        rw [hst] at hst1
        cases hst1
        cases hy : keyD kd with
        | none =>
          rw [hy] at q
          exact q.elim
        | some y =>
          rw [hy] at q
          cases rp_key dp hy
          refine ⟨_, DGet.k hH1, ?_⟩
          cases hvk : vK kvs y with
          | none =>
            rw [kv_none hr1 hvk]
            simp only [hvk] at q
            exact q F2 H2 z k2 (e1.trans e2) dq
          | some d =>
            obtain ⟨w, g1, g2⟩ := kv_get hr1 hvk
            rw [g1]
            simp only [hvk] at q
            exact q F2 H2 w k2 (e1.trans e2) g2
      · exact q.elim
    · exact po.elim
/-! ### l.clear() -/
def eClear (i : Nat) : M D := fun r => match getC i r with
  | some (.l _) => .ok .none (putC i (.l []) r)
  | _ => .no
end
end Pu
namespace Pu
open PySem PySem.Spec PyProof.Rows L2
variable [TabT]
/-! ### zip of a tuple and a list -/
def zipW : List D → Option (List D)
  | [.tuple xs, .list ys] => some (zipD xs ys)
  | [.list xs, .list ys] => some (zipD xs ys)
  | [.tuple xs, .tuple ys] => some (zipD xs ys)
  | _ => none
end Pu
namespace Pu
open PySem PySem.Spec PyProof.Rows L2
variable [TabT]
section
variable {X : Cx} {c : Cc}
/-! ### repr(x), isinstance(x, T) of an owned name -/
noncomputable def eReprS (i : Nat) : M D := fun r => match getC i r with
  | some (.l ds) => M.opt (reprD (.list ds)) r
  | some (.d _) => .no
  | some (.t _) => .no
  | some (.n (.l its)) => M.opt (reprD (.list (its.map Im.data))) r
  | some (.n _) => .no
  | none => nry (one reprD) (aCons (getS i) aNil) r
noncomputable def eIsiS (T : String) (i : Nat) : M D := fun r => match getC i r with
  | some (.l ds) => M.opt ((kitB "list" T).map PyData.bool) r
  | some (.d _) => M.opt ((kitB "dict" T).map PyData.bool) r
  | some (.t _) => .no
  | some (.n (.l _)) => M.opt ((kitB "list" T).map PyData.bool) r
  | some (.n _) => .no
  | none => una (isiD T) (getS i) r
/-! ### list(d), sorted(d) of an owned dict -/
def kD : Key → D
  | .inl i => .int i
  | .inr x => .str x
def oListK (i : Nat) : M RV := fun r => match getC i r with
  | some (.d kvs) => .ok (.o (.l (kvs.map fun kv => kD kv.1))) r
  | some (.l _) => .no
  | some (.t _) => .no
  | some (.n _) => .no
  | none => nryO listD (aCons (getS i) aNil) r
def intKs : List Key → Option (List Int)
  | [] => some []
  | .inl i :: ks => (intKs ks).map (i :: ·)
  | .inr _ :: _ => none
noncomputable def oSortK (i : Nat) : M RV := fun r => match getC i r with
  | some (.d kvs) => (match intKs (kvs.map (·.1)) with
    | some is => cI (is.length < 64) (.ok (.o (.l ((isort is).map .int))) r) .no
    | none => .no)
  | some (.l _) => .no
  | some (.t _) => .no
  | some (.n _) => .no
  | none => nryO sortD (aCons (getS i) aNil) r
/-! ### tuple(x) of an owned list: x stays one's own -/
def eTupS (i : Nat) : M D := fun r => match getC i r with
  | some (.l ds) => .ok (.tuple ds) r
  | some (.d _) => .no
  | some (.t _) => .no
  | some (.n _) => .no
  | none => nry (one tupD) (aCons (getS i) aNil) r
theorem e_tupS (i : Nat) {x : Str} {p px pos : Pos} (hm : X.mg "tuple" = none) (hK : c.K = X.K := by rfl) (hg : Gl X "tuple" := by rfl) (hs1 : starEach [.Name x px] X.env = [(false, eval (.Name x px) X.env)] := by rfl) (hpl : (backTo pos (starEach [] X.env)).any (·.1) = false := by rfl)
    (hN : X.N[i]? = some x := by rfl) (hv : Vis X.env.scope x := by first | exact Or.inl rfl | exact Or.inr (Or.inl rfl) | exact Or.inr (Or.inr rfl)) (hd : (x == ("__debug__" : Str)) = false := by decide)
    (hcd : (x == ("__classdict__" : Str)) = false := by decide) : PE X (.Call (.Name "tuple" p) [.Name x px] [] pos) (tM c (eTupS i)) :=
  pe_cq (pe_or' (pe_callTy call_tuple_of hg hm (by decide +kernel) (pa_cons (pe_var (i := i) hN hv hd hcd) pa_nil hs1) (by decide) (by decide) hs1 hpl)
    (e_callT (c := c) (tup_data hK) hm (a_cons (e_var i hN hv hd hcd) a_nil hs1) hg (by decide +kernel) (by decide) (by decide) hs1 hpl)) fun st H Q ⟨pa, H0, F0, F, r, ok, po⟩ => by
    unfold eTupS at po
    split at po
    · rename_i ds hg
      obtain ⟨s0, hs0, hso0⟩ := getC_some hg
      obtain ⟨a, hst, nF, n0, vs, hH, hr⟩ := ok.ownd hs0 hso0
      refine .inl ⟨_, hst, a, vs, rfl, .inl ⟨.inl (.inl hH), fun p np => ?_⟩⟩
      have nFp := ok.fH.nn np
      exact op_end (r' := r) ok (fun F' H' v k e dp => po F' H' v k e dp) _ _ _ (.inr ⟨p, _, np, rfl, rfl⟩) (.tup upd_same (dpa_mono (Ex.new nFp) hr))
    · exact po.elim
    · exact po.elim
    · exact po.elim
    · exact .inr ⟨pa, H0, F0, F, r, ok, po⟩
end
end Pu
namespace Pu
open PySem PySem.Spec PyProof.Rows L2
variable [TabT]
section
variable {X : Cx} {c : Cc}
/-! ### max(list of ints, default=int) -/
def maxI (d : Int) : List Int → Int
  | [] => d
  | x :: xs => xs.foldl (fun a y => max a y) x
def maxdD : D → D → Option D
  | .list ds, .int d => (intsOf ds).map fun ns => .int (maxI d ns)
  | _, _ => none
/-! ### a call with an owned list lent -/
mutual
def noL : D → Bool
  | .tuple ds => noLAll ds
  | .list _ => false
  | .dict _ => false
  | _ => true
def noLAll : List D → Bool
  | [] => true
  | d :: ds => noL d && noLAll ds
end
def dropA (a : Addr) (F : Hp) : Hp := fun b => if b = a then none else F b
theorem drop_ne {a b : Addr} {F : Hp} (h : b ≠ a) : dropA a F b = F b := if_neg h
theorem drop_same {a : Addr} {F : Hp} : dropA a F a = none := if_pos rfl
theorem squ_drop {F : Hp} {a t : Addr} {vs xs : List V} (ha : F a = some (.lst vs)) (h : SqU F t xs) : SqU (dropA a F) t xs := by
  have h : F t = some (.tup xs) := h
  show dropA a F t = _
  rw [drop_ne fun z => by rw [z, ha] at h; cases h]
  exact h
mutual
theorem rp_drop {K : PySem.W.Frag} {F : Hp} {a : Addr} {vs0 : List V} (ha : F a = some (.lst vs0)) : ∀ {v : V} {d : D}, Rp K F v d → noL d = true → Rp K (dropA a F) v d
  | _, _, .non, _ => .non
  | _, _, .bl b, _ => .bl b
  | _, _, .int i, _ => .int i
  | _, _, .str x, _ => .str x
  | _, _, .lst _ _, h => by cases h
  | _, _, .tup g1 g2, h => .tup (squ_drop ha g1) (rpa_drop ha g2 h)
  | _, _, .emp _, h => by cases h
  | _, _, .exc0 _ _, h => by cases h
  | _, _, .excF _ _ _ _ _, h => by cases h
  | _, _, .dci _ _ _ _ _, h => by cases h
  | _, _, .dct _ _ _ _ _, h => by cases h
  | _, _, .fnv, h => by cases h
theorem rpa_drop {K : PySem.W.Frag} {F : Hp} {a : Addr} {vs0 : List V} (ha : F a = some (.lst vs0)) : ∀ {vs : List V} {ds : List D}, RpAll K F vs ds → noLAll ds = true → RpAll K (dropA a F) vs ds
  | _, _, .nil, _ => .nil
  | _, _, .cons h1 h2, h => by
    have h := Bool.and_eq_true_iff.mp h
    exact .cons (rp_drop ha h1 h.1) (rpa_drop ha h2 h.2)
end
def noLR : RV → Bool
  | .v d => noL d
  | .o (.l ds) => noLAll ds
  | .o (.d _) => false
  | .o (.t _) => false
  | .o (.n _) => false
end
end Pu
/-! ### sorted(set(a list of ints)), any number of them -/
namespace L2
open PySem PySem.Spec PyProof.Rows
end L2
namespace Pu
open PySem PySem.Spec PyProof.Rows L2
end Pu
/-! ### x(lambda: E) where E changes one object of the maker's -/
namespace Pu
open PySem PySem.Spec PyProof.Rows L2 LamX
end Pu
/-! ### texts -/
namespace Pu
open PySem PySem.Spec PyProof.Rows L2
end Pu
namespace Pu
open PySem PySem.Spec PyProof.Rows L2
/-! ### where a text stands in a text -/
end Pu
namespace Pu
open PySem PySem.Spec PyProof.Rows L2
/-! ### a text parted at a mark -/
end Pu
namespace Pu
open PySem PySem.Spec PyProof.Rows L2
variable [TabT]
section
variable {X : Cx} {c : Cc}
/-! ### l.reverse() -/
def eLRev (i : Nat) : M D := fun r => match getC i r with
  | some (.l ds) => .ok .none (putC i (.l ds.reverse) r)
  | _ => .no
end
@[simp] theorem eLRev_ap (i : Nat) (r : En) : eLRev i r = (match getC i r with
  | some (.l ds) => .ok .none (putC i (.l ds.reverse) r)
  | _ => .no) := rfl
end Pu
namespace Pu
open PySem PySem.Spec PyProof.Rows L2
variable [TabT]
/-! ### i // j of any size -/
noncomputable def fdivLD : D → D → Option D
  | .int i, .int j => cI (j ≠ 0) (some (.int (i.fdiv j))) none
  | _, _ => none
section
variable {X : Cx} {c : Cc}
theorem pylong_room {k : Nat} (hr : Rm k X.A) (NS : SeerK X.prog X.base) {pins : List (Addr × Obj)} {σ : L2.St} {H : Hp} {s : Shared} (I : Inv X pins σ H s) : PySem.PylongRoom (model X.prog X.w) X.A s := by
  have kp : ∀ b o, X.base.get? b = some o → s.heap.get? b = some o := fun b o e => (I.env0.bs b o e).1
  obtain ⟨env, l, hf, t⟩ := hr.top
  refine PySem.PylongRoom.of (I.ok.mod.nolimit.keeps kp) ?_ (PySem.SeerAt.of (NS.ns.keeps kp) NS.tree hf t.gen t.co t.bl t.gl)
  have := hr.dl
  show X.A.depth + 100 < recursionLimit
  omega
theorem op_fdivL {k : Nat} (hr : Rm k X.A) (NS : SeerK X.prog X.base) : OpR X (binaryOp .FloorDiv) (rI (fun _ j => j ≠ 0) fun i j => .int (i.fdiv j)) := by
  intro pins s σ H x y v u Q I rx ry h
  obtain ⟨i, j, rfl, rfl, hc, q⟩ := h
  obtain ⟨t, rfl⟩ := rx
  obtain ⟨t', rfl⟩ := ry
  exact floordiv_int hc ⟨.int (i.fdiv j), H, I.tok _, ⟨_, rfl⟩, q⟩ (.inr (pylong_room hr NS I))
theorem fdivL_data {k : Nat} (hr : Rm k X.A) (NS : SeerK X.prog X.base) : OpR X (binaryOp .FloorDiv) (rD2 c.K fdivLD) := opr_cq (op_fdivL hr NS) fun x y H Q ⟨F, d, e, z, fh, dx, dy, hz, q⟩ => by
  cases dx with
  | int i =>
    cases dy with
    | int j =>
      have hz : (if j ≠ 0 then some (PyData.int (i.fdiv j)) else none) = some z := by
        rw [← cI_eq]
        exact hz
      split at hz
      · rename_i hm
        cases hz
        exact ⟨i, j, rfl, rfl, hm, q _ F H (.inl ⟨rfl, rfl⟩) (.int _)⟩
      · cases hz
    | _ => cases hz
  | _ => cases hz
end
end Pu
namespace Pu
open PySem PySem.Spec PyProof.Rows L2
variable [TabT]
/-! ### f(x, ..) that lends an owned list x and hands further values -/
noncomputable def cCallBn (i : Nat) (f : List Sl → Re RV) (ms : M (List D)) : M RV := fun r => match getC i r with
  | some _ => (match ms r with
    | .ok es r1 => (match r1[i]? with
      | some (.o (.l ds)) => (match f (.v (.list ds) :: es.map .v) with
        | .ok rv _ => cI (noLR rv = true) (.ok rv r1) .no
        | _ => .no)
      | _ => .no)
    | _ => .no)
  | none => .no
section
variable {X : Cx} {c : Cc}
theorem callBn {n : Nat} {es : List D} {us : List V} {f : List Sl → Re RV} {F H : Hp} {st : L2.St} {r : En} {pa : Nat → Addr} {H0 F0 : Hp} {i : Nat} {ds : List D} {a : Addr} {Q : VK} (k1 : Ok c.K pa H0 F0 F H st r) (hi : r[i]? = some (.o (.l ds))) (hst : st[i]? = some (some (.ref a))) (hn : es.length + 1 = n) (hus : RpAll c.K F us es)
    (q : Po (XW c pa H0 F0 F) (match f (.v (.list ds) :: es.map .v) with
      | .ok rv _ => cI (noLR rv = true) (.ok rv r) .no
      | _ => .no) fun rv r' => ∀ F' H' v, Ok c.K pa H0 F0 F' H' st r' → Ex F F' → RvOk c.K H0 F' H' st r' v rv → Q v H') : spG c.K c.mg n f (.ref a :: us) H Q (fun cls d H' => c.W cls d st H') := by
  obtain ⟨a', h1, nF, n0, vs, hH, hr⟩ := k1.ownd hi rfl
  rw [hst] at h1
  cases h1
  have eF : Ex F (upd F a (.lst vs)) := Ex.new nF
  have eFH : Ex (upd F a (.lst vs)) H := ⟨fun b o e nt => by
    by_cases hb : b = a
    · subst hb
      rw [upd_same] at e
      rw [hH]
      exact e
    · rw [upd_ne hb] at e
      exact k1.fH.at_ b o e nt, fun b ps e => by
    by_cases hb : b = a
    · subst hb
      rw [upd_same] at e
      cases e
    · rw [upd_ne hb] at e
      exact k1.fH.tb b ps e⟩
  have dps : RpAll c.K (upd F a (.lst vs)) (.ref a :: us) (.list ds :: es) := .cons (.lst (.inl (.inl upd_same)) (dpa_mono eF hr)) (dpa_mono eF hus)
  refine ⟨by rw [List.length_cons, dpa_len hus, hn], pa, H, upd F a (.lst vs), (.list ds :: es).map .v, argsV dps eFH k1.tb, argsOkV _, ?_⟩
  show Po _ (f (.v (.list ds) :: es.map .v)) _
  cases hf : f (.v (.list ds) :: es.map .v) with
  | no =>
    rw [hf] at q
    exact q.elim
  | ex ee z =>
    rw [hf] at q
    exact q.elim
  | ok rv z =>
    rw [hf] at q
    obtain ⟨hno, q⟩ := cI_po q
    refine fun F' H' v k2 hv => ?_
    have ha' : F' a = some (.lst vs) := k2.fF.at_ a _ upd_same (fun ps z => nomatch z)
    have ed : Ex F (dropA a F') := ⟨fun b o e nt => by
      have hb : b ≠ a := fun z => by rw [z, nF] at e; cases e
      rw [drop_ne hb]
      exact (eF.trans k2.fF).at_ b o e nt, fun b ps e => by
      have hb : b ≠ a := fun z => by rw [z, nF] at e; cases e
      obtain ⟨m, hm⟩ := (eF.trans k2.fF).tb b ps e
      exact ⟨m, by rw [drop_ne hb]; exact hm⟩⟩
    have edH : Ex (dropA a F') H' := ⟨fun b o e nt => by
      by_cases hb : b = a
      · rw [hb, drop_same] at e
        cases e
      · rw [drop_ne hb] at e
        exact k2.fH.at_ b o e nt, fun b ps e => by
      by_cases hb : b = a
      · rw [hb, drop_same] at e
        cases e
      · rw [drop_ne hb] at e
        exact k2.fH.tb b ps e⟩
    have k3 : Ok c.K pa H0 F0 (dropA a F') H' st r := k1.grow k2.hH ed edH (fun b g1 g2 => by
      by_cases hb : b = a
      · rw [hb, drop_same] at g1
        exact absurd rfl g1
      · rw [drop_ne hb] at g1
        have := k2.sep b g2 g1
        rw [upd_ne hb] at this
        exact this) k2.tb
    refine q (dropA a F') H' v k3 ed ?_
    cases rv with
    | v d => exact rp_drop ha' hv hno
    | o ct =>
      cases ct with
      | t kvs => cases hno
      | n t => cases hno
      | d kvs => cases hno
      | l es =>
        obtain ⟨b, rfl, z1, z2, ⟨ws, z3, z5⟩, z4⟩ := hv
        refine ⟨b, rfl, ?_, k1.hH.nn z2, ⟨ws, z3, rpa_drop ha' z5 hno⟩, k1.awayC (st' := []) (r' := []) k2.hH z2 fun _ h => (inn_l h).elim⟩
        by_cases hb : b = a
        · rw [hb, drop_same]
        · rw [drop_ne hb]
          exact z1
theorem o_callBn {k n : Nat} (i : Nat) {x y : Str} {f : List Sl → Re RV} {p py pos : Pos} {es : List Expr} {ms : M (List D)} (G : Fn X.prog X.w X.K X.mg X.base k x n f) (hr : Rm k X.A) (tk : Takes X c.W) (ha : PA X es (tA c ms)) (hnm : ∀ r ds r', ms r = .ok ds r' → ds.length + 1 = n) (hK : c.K = X.K := by rfl) (hM : c.mg = X.mg := by rfl) (hg : Gl X x := by rfl)
    (hN : X.N[i]? = some y := by rfl) (hv : Vis X.env.scope y := by first | exact Or.inl rfl | exact Or.inr (Or.inl rfl) | exact Or.inr (Or.inr rfl)) (hd : (y == ("__debug__" : Str)) = false := by decide) (hcd : (y == ("__classdict__" : Str)) = false := by decide)
    (hdb : (x == ("__debug__" : Str)) = false := by decide) (he : starEach (.Name y py :: es) X.env = (false, eval (.Name y py) X.env) :: starEach es X.env := by rfl) (hpl : (backTo pos (starEach es X.env)).any (·.1) = false := by rfl) :
    PE X (.Call (.Name x p) (.Name y py :: es) [] pos) (tO c (cCallBn i f ms)) := by
  obtain ⟨a, fd, ps, g1, g2, g3, g4⟩ := G.ex
  refine pe_cq (pe_callG (Ew := fun st cls d H' => c.W cls d st H') g4 hr hg g1 g2 g3 (fun σ => passAt tk σ) (pa_cons (pe_var (i := i) hN hv hd hcd) ha he) hdb he hpl) fun st H Q ⟨pa, H0, F0, F, r, ok, po⟩ => ?_
  unfold cCallBn at po
  cases hgc : getC i r with
  | none =>
    rw [hgc] at po
    exact po.elim
  | some ct0 =>
    rw [hgc] at po
    dsimp only at po
    obtain ⟨s0, hs0, hso0⟩ := getC_some hgc
    obtain ⟨a0, hv0, _⟩ := ok.ownd hs0 hso0
    cases hm : ms r with
    | no =>
      rw [hm] at po
      exact po.elim
    | ex ee r1 =>
      rw [hm] at po
      exact po.elim
    | ok es r1 =>
      rw [hm] at po
      dsimp only at po
      split at po
      · rename_i ds hi
        refine ⟨_, hv0, pa, H0, F0, F, r, ok, ?_⟩
        rw [hm]
        intro F1 H1 vs k1 e1 dps
        rw [← hK, ← hM]
        exact callBn k1 hi hv0 (hnm r es r1 hm) dps (po.mono (XW.mono e1) fun rv r' z F' H' v k ex hv => z F' H' v k (e1.trans ex) hv)
      · exact po.elim
end
end Pu
namespace Pu
open PySem PySem.Spec PyProof.Rows L2
variable [TabT]
/-! ### sorted(xs) of a list of data, any number -/
section
variable {X : Cx} {c : Cc}
/-! ### {k: v}, the key a tuple -/
/-! ### k in d, k not in d: an owned dict -/
def eInS (i : Nat) (mk : M D) : M D := mk.bind fun kd r => match getC i r with
  | some (.t kvs) => (match tkeyD kd with
    | some y => .ok (.bool (vK kvs y).isSome) r
    | none => .no)
  | some (.d kvs) => (match keyD kd with
    | some y => .ok (.bool (vK kvs y).isSome) r
    | none => .no)
  | _ => .no
/-! ### sum of a list or a tuple of ints -/
/-! ### min, max of a list of ints -/
end
end Pu
namespace Pu
open PySem PySem.Spec PyProof.Rows L2
variable [TabT]
section
variable {X : Cx} {c : Cc}
/-! ### e in x, e not in x for an owned list x, which stays owned -/
noncomputable def eInLS (i : Nat) (mk : M D) : M D := mk.bind fun kd r => match getC i r with
  | some (.l ds) => M.opt (inD kd (.list ds)) r
  | _ => .no
noncomputable def eNinLS (i : Nat) (mk : M D) : M D := mk.bind fun kd r => match getC i r with
  | some (.l ds) => M.opt (ninD kd (.list ds)) r
  | _ => .no
end
@[simp] theorem eInLS_ap (i : Nat) (mk : M D) (r : En) : eInLS i mk r = (mk r).bind fun kd r => (match getC i r with
  | some (.l ds) => M.opt (inD kd (.list ds)) r
  | _ => .no) := rfl
@[simp] theorem eNinLS_ap (i : Nat) (mk : M D) (r : En) : eNinLS i mk r = (mk r).bind fun kd r => (match getC i r with
  | some (.l ds) => M.opt (ninD kd (.list ds)) r
  | _ => .no) := rfl
end Pu
namespace Pu
open PySem PySem.Spec PyProof.Rows L2
variable [TabT]
/-! ### dict(a list of pairs whose keys are tuples) -/
section
variable {X : Cx}
variable {c : Cc}
def pairT : D → Option (List Key × D)
  | .tuple [k, v] => (tkeyD k).map fun y => (y, v)
  | _ => none
def pairsT : List D → Option (List (List Key × D))
  | [] => some []
  | d :: ds => (pairT d).bind fun p => (pairsT ds).map fun ps => p :: ps
def dictP : List D → Option (List (List Key × D))
  | [.list xs] => (pairsT xs).map fun kvs => kvs.foldl (fun acc kv => pK acc kv.1 kv.2) []
  | _ => none
def oDictP (ms : M (List D)) : M RV := ms.bind fun ds => M.opt ((dictP ds).map fun kvs => .o (.t kvs))
end
@[simp] theorem oDictP_ap (ms : M (List D)) (r : En) : oDictP ms r = (ms r).bind fun ds => M.opt ((dictP ds).map fun kvs => RV.o (.t kvs)) := rfl
end Pu
namespace Pu
open PySem PySem.Spec PyProof.Rows L2
variable [TabT]
/-! ### f(.., x) that lends an owned x as the last value -/
section
variable {X : Cx} {c : Cc} {k n : Nat} {x : Str} {f : List Sl → Re RV} {e : Expr} {es : List Expr} {p pos : Pos} {ms : M (List D)}
def cCallZ (i : Nat) (f : List Sl → Re RV) (m1 m2 : M D) : M RV := fun r => match getC i r with
  | none => .no
  | some _ => (m1 r).bind fun d1 r => (m2 r).bind fun d2 r => match getC i r with
    | some ct => (match f [.v d1, .v d2, .io ct] with
      | .ok rv z => (match (z[2]? : Option Sl) with
        | some (Sl.io ct') => .ok rv (putC i ct' r)
        | _ => .no)
      | .ex e z => (match (z[2]? : Option Sl) with
        | some (Sl.io ct') => .ex e (putC i ct' r)
        | _ => .no)
      | .no => .no)
    | none => .no
/-! ### e in x, x data or a dict with tuple keys of one's own -/
noncomputable def eInX (i : Nat) (mk : M D) : M D := fun r => match getC i r with
  | some (.t _) => eInS i mk r
  | none => bin inD mk (getS i) r
  | _ => .no
end
@[simp] theorem eInX_ap (i : Nat) (mk : M D) (r : En) : eInX i mk r = (match getC i r with
  | some (.t _) => eInS i mk r
  | none => bin inD mk (getS i) r
  | _ => .no) := rfl
@[simp] theorem cCallZ_ap (i : Nat) (f : List Sl → Re RV) (m1 m2 : M D) (r : En) : cCallZ i f m1 m2 r = (match getC i r with
  | none => .no
  | some _ => (m1 r).bind fun d1 r => (m2 r).bind fun d2 r => match getC i r with
    | some ct => (match f [.v d1, .v d2, .io ct] with
      | .ok rv z => (match (z[2]? : Option Sl) with
        | some (Sl.io ct') => .ok rv (putC i ct' r)
        | _ => .no)
      | .ex e z => (match (z[2]? : Option Sl) with
        | some (Sl.io ct') => .ex e (putC i ct' r)
        | _ => .no)
      | .no => .no)
    | none => .no) := rfl
end Pu
namespace Pu
open PySem PySem.Spec PyProof.Rows L2
variable [TabT]
/-! ### any of a tuple of ints -/
section
variable {X : Cx} {c : Cc}
def anyAD : D → Option D
  | .list ds => (boolsOf ds).map fun bs => .bool (bs.any id)
  | .tuple ds => (intsOf ds).map fun ns => .bool (ns.any fun n => n != 0)
  | _ => none
end
@[simp] theorem anyAD_b (ds : List D) : anyAD (.list ds) = (boolsOf ds).map fun bs => .bool (bs.any id) := rfl
end Pu
namespace Pu
open PySem PySem.Spec PyProof.Rows L2
/-! ### max of a tuple of ints -/
end Pu
namespace Pu
open PySem PySem.Spec PyProof.Rows L2
/-! ### repr of tuples that hold {} -/
end Pu
namespace Pu
open PySem PySem.Spec PyProof.Rows L2
variable [TabT]
/-! ### lists with lists of one's own within -/
/-- the items of an owned list -/
def asNl : Ct → Option (List Im)
  | .l ds => some (ds.map .v)
  | .n (.l its) => some its
  | _ => none
def imOf : RV → Option Im
  | .v d => some (.v d)
  | .o (.l ds) => some (.l ds)
  | _ => none
section
variable {K : PySem.W.Frag} {F H : Hp} {a : Addr}
theorem ItAll.app : ∀ {vs ws : List V} {is js : List Im}, ItAll K F H vs is → ItAll K F H ws js → ItAll K F H (vs ++ ws) (is ++ js)
  | _, _, _, _, .nil, h => h
  | _, _, _, _, .cons h t, q => .cons h (t.app q)
end
/-! ### for y in x[lo:hi]: .., the inner lists lent one by one -/
section
variable {K : PySem.W.Frag} {pa : Nat → Addr} {H0 F0 F H F' H' : Hp} {st st2 : L2.St} {r r2 : En}
open Classical in
/-- the frame while an inner list is lent: the outer list, the other inner lists stand -/
noncomputable def LdK (H0 H : Hp) (a b : Addr) (t : Nt) : Hp := fun x => if x = a ∨ (Inn H a (.n t) x ∧ x ≠ b) then H x else H0 x
omit [TabT] in
theorem LdK.at_ {a b x : Addr} {t : Nt} (h : x = a ∨ (Inn H a (.n t) x ∧ x ≠ b)) : LdK H0 H a b t x = H x := if_pos h
/-- a new object joins what must stand -/
theorem Ok.inL (k : Ok K pa H0 F0 F H st r) {L : Addr} {o : HO} (n : H L = none) : Ok K pa (upd H0 L o) F0 F (upd H L o) st r := by
  have kl := k.lay (o := o) n
  have nF := k.fH.nn n
  refine kl.frame ⟨fun a u z nt => ?_, fun a ps z => ?_⟩ (fun a z1 z2 => ?_) (fun j s c a h1 h2 h3 => ?_)
  · by_cases ha : a = L
    · subst ha
      rw [upd_same] at z ⊢
      exact z
    · rw [upd_ne ha] at z ⊢
      exact k.hH.at_ a u z nt
  · by_cases ha : a = L
    · subst ha
      rw [upd_same] at z ⊢
      exact ⟨#[], by rw [Array.append_empty]; exact z⟩
    · rw [upd_ne ha] at z ⊢
      exact k.hH.tb a ps z
  · by_cases ha : a = L
    · subst ha
      exact absurd nF z2
    · rw [upd_ne ha] at z1
      exact k.sep a z1 z2
  · obtain ⟨na, ni⟩ := k.nobody n j s c a h1 h2 h3
    obtain ⟨a', g1, g2, g3, g4⟩ := k.ownd h1 h2
    rw [h3] at g1
    cases g1
    rw [upd_ne na]
    refine ⟨g3, fun b hb => ?_⟩
    have hb' := hb.cg (upd_ne na).symm
    have nb : b ≠ L := fun z => ni (z ▸ hb')
    rw [upd_ne nb]
    exact (k.inn j s c a b h1 h2 h3 hb').2.1
end
/-! ### x[k1][k2] = e, within a list of lists of one's own -/
/-- a number that is written, or in a slot -/
def ksV (k : Sum Int Nat) (r : En) : Option Int := match k with
  | .inl n => some n
  | .inr j => match r[j]? with
    | some (.v (.int n)) => some n
    | _ => none
end Pu
namespace Pu
open PySem PySem.Spec PyProof.Rows L2
variable [TabT]
/-! ### an object of one's own that is no slot's, kept while something else is reckoned -/
open Classical in
noncomputable def FrN (H0 H : Hp) (a : Addr) (t : Nt) : Hp := fun x => if x = a ∨ Inn H a (.n t) x then H x else H0 x
omit [TabT] in
theorem FrN.at_ {H0 H : Hp} {a x : Addr} {t : Nt} (h : x = a ∨ Inn H a (.n t) x) : FrN H0 H a t x = H x := if_pos h
section
variable {K : PySem.W.Frag} {pa : Nat → Addr} {H0 F0 F H F' H' F2 H2 : Hp} {st st2 : L2.St} {r r2 : En} {a : Addr} {its : List Im}
/-- what is nobody's, behind a block -/
theorem Nob.back {is : List Nat} {q : En} (hn : noOwn r is = true) (h : Nob H (wipe st is) (wipeE q is) a) : Nob H st (backE r (wipeE q is) is) a := fun j s ct b hj hct hst => by
  rw [backE_get] at hj
  by_cases hji : j ∈ is
  · rw [if_pos hji] at hj
    split at hj
    · cases hj
      have hz := List.all_eq_true.mp hn j hji
      rw [List.getD_eq_getElem?_getD] at hct
      cases hr : r[j]? with
      | none =>
        rw [hr] at hz
        cases hz
      | some x =>
        rw [hr] at hz hct
        have hz : x.own.isNone = true := hz
        have hct : x.own = some ct := hct
        rw [hct] at hz
        cases hz
    · cases hj
  · rw [if_neg hji] at hj
    exact h j s ct b hj hct (by rw [wipe_get, if_neg hji]; exact hst)
end
/-! ### [e for x in xs], e a list of one's own -/
section
variable {X : Cx} {c : Cc}
/-! ### list(range(..)) -/
noncomputable def oListR (m : M D) : M RV := m.bind fun d r => match d with
  | .int n => cI (n ≤ 16777216 ∧ -1000000 ≤ n) (.ok (.o (.l (rngD 0 n.toNat))) r) .no
  | _ => .no
/-! ### x[k], x[l] = (d, e) -/
end
end Pu
namespace Pu
open PySem PySem.Spec PyProof.Rows L2
/-! ### repr(x), empty dicts within -/
mutual
inductive Gd (h : Heap) : Value → PyData → Prop
  | none : Gd h .none .none
  | bool (b) : Gd h (.bool b) (.bool b)
  | int (i t) : Gd h (.int i t) (.int i)
  | str (x t) : Gd h (.str x t) (.str x)
  | list {a : Addr} {o : Obj} {vs : Array Value} {n : Nat} {xs : List PyData} : h.get? a = some o → o.cls = .type "list" → o.data = .seq vs n → GdAll h vs.toList xs → Gd h (.ref a) (.list xs)
  | tuple {a : Addr} {o : Obj} {vs : Array Value} {n : Nat} {xs : List PyData} : h.get? a = some o → o.cls = .type "tuple" → o.data = .seq vs n → GdAll h vs.toList xs → Gd h (.ref a) (.tuple xs)
  | emp {a : Addr} {o : Obj} {es : Array DictEntry} {n : Nat} : h.get? a = some o → o.cls = .type "dict" → o.data = .dict es n → es.toList = [] → (a == sysModules) = false → Gd h (.ref a) (.dict [])
inductive GdAll (h : Heap) : List Value → List PyData → Prop
  | nil : GdAll h [] []
  | cons {v : Value} {vs : List Value} {d : PyData} {ds : List PyData} : Gd h v d → GdAll h vs ds → GdAll h (v :: vs) (d :: ds)
end
mutual
theorem Gd.reads {h : Heap} : ∀ {v : Value} {d : PyData}, Gd h v d → ∃ as, Reads h v d as
  | _, _, .none => ⟨_, .none⟩
  | _, _, .bool b => ⟨_, .bool b⟩
  | _, _, .int i t => ⟨_, .int i t⟩
  | _, _, .str x t => ⟨_, .str x t⟩
  | _, _, .list h1 h2 h3 h4 => by
    obtain ⟨as, r⟩ := GdAll.reads h4
    exact ⟨_, .list h1 h2 h3 r⟩
  | _, _, .tuple h1 h2 h3 h4 => by
    obtain ⟨as, r⟩ := GdAll.reads h4
    exact ⟨_, .tuple h1 h2 h3 r⟩
  | _, _, .emp h1 h2 h3 h4 _ => ⟨_, .dict (kvs := []) h1 h2 h3 (by rw [h4]; exact .nil) (by rw [h4]; exact .nil)⟩
theorem GdAll.reads {h : Heap} : ∀ {vs : List Value} {ds : List PyData}, GdAll h vs ds → ∃ as, ReadsAll h vs ds as
  | _, _, .nil => ⟨_, .nil⟩
  | _, _, .cons a b => by
    obtain ⟨as, r⟩ := Gd.reads a
    obtain ⟨bs, q⟩ := GdAll.reads b
    exact ⟨_, .cons r q⟩
end
mutual
def shE : PyData → Bool
  | .none | .bool _ | .int _ | .str _ => true
  | .list xs | .tuple xs => shEAll xs
  | .dict [] => true
  | .dict (_ :: _) => false
def shEAll : List PyData → Bool
  | [] => true
  | x :: xs => shE x && shEAll xs
end
variable [TabT]
end Pu
namespace Pu
open PySem PySem.Spec PyProof.Rows L2
end Pu
namespace Pu
open PySem PySem.Spec PyProof.Rows L2
/-! ### x[k].clear(), x a tuple of one's own with a list of one's own within -/
end Pu
namespace Pu
open PySem PySem.Spec PyProof.Rows L2
/-! ### objects of one's own lent as data while something is reckoned, and taken back -/
end Pu
namespace Pu
open PySem PySem.Spec PyProof.Rows L2
variable [TabT]
/-! ### a frozen dict with whole numbers as keys -/
/-- what stands at i -/
def fdG : List (D × D) → Int → Option D
  | [], _ => none
  | (.int j, d) :: r, i => if j = i then some d else fdG r i
  | _ :: _, _ => none
def inKD : D → D → Option D
  | .int i, .dict (x :: r) => some (.bool (fdG (x :: r) i).isSome)
  | _, _ => none
section
variable {X : Cx} {c : Cc}
/-- is it a dict that numbers stand for -/
def isKD : D → Bool
  | .dict ((.int _, _) :: _) => true
  | _ => false
def inK (x d : D) : Option D := if isKD d = true then inKD x d else none
/-! ### for k in d, for k, v in d.items() -/
/-! ### an owned dict is frozen -/
/-! ### len of a frozen dict -/
end
end Pu
namespace Pu
open PySem PySem.Spec PyProof.Rows L2
/-! ### len(set(a list of tuples of whole numbers)) -/
end Pu
namespace Pu
open PySem PySem.Spec PyProof.Rows L2
/-! ### tuples within tuples, asked by a set -/
end Pu
namespace Pu
open PySem PySem.Spec PyProof.Rows L2
/-! ### tables of up to 512 places -/
def MaskW (m : Nat) : Prop := MaskOk m ∨ m = 511
theorem wayW_le (m : Nat) (h : Int) (k : Nat) : way m h k ≤ m := by
  have hi : SetTable.bits h % (m + 1) ≤ m := Nat.le_of_lt_succ (Nat.mod_lt _ (Nat.succ_pos _))
  have r := runEnd_bd hi
  have q := nth_in (m := m) k (runAt m (SetTable.bits h % (m + 1)) (SetTable.bits h)) (by
    show SetTable.bits h % (m + 1) + (SetTable.runEnd m (SetTable.bits h % (m + 1)) - SetTable.bits h % (m + 1)) ≤ m
    omega)
  show (nth m (runAt m (SetTable.bits h % (m + 1)) (SetTable.bits h)) k).j ≤ m
  omega
/-- a table whose places are found again from their hashes -/
structure TabW (t : SetTable) (hs : List Int) : Prop where
  ris : Ris t.place.toList
  dm : t.dummies = #[]
  sz : t.place.size = hs.length
  mok : MaskW t.mask
  bd : ∀ x ∈ t.place.toList, x ≤ t.mask
  reach : ∀ (i : Nat) (h : Int) (j : Nat), hs[i]? = some h → t.place.toList[i]? = some j → ∃ k, way t.mask h k = j ∧ ∀ k', k' < k → way t.mask h k' ∈ t.place.toList
section
variable {t : SetTable} {hs : List Int}
theorem TabW.put (T : TabW t hs) {h : Int} {n : Nat} (hn : way t.mask h n ∉ t.place.toList) (hb : ∀ k, k < n → way t.mask h k ∈ t.place.toList) :
    (t.put (way t.mask h n)).2 = SetTable.below t.place (way t.mask h n) ∧ SetTable.below t.place (way t.mask h n) ≤ hs.length ∧
    TabW (t.put (way t.mask h n)).1 (hs.take (SetTable.below t.place (way t.mask h n)) ++ h :: hs.drop (SetTable.below t.place (way t.mask h n))) ∧
    (t.put (way t.mask h n)).1.mask = t.mask ∧ (t.put (way t.mask h n)).1.led = t.led ∧ (t.put (way t.mask h n)).1.plain = t.plain ∧
    (t.put (way t.mask h n)).1.fill = hs.length + 1 := by
  have hjm := wayW_le t.mask h n
  generalize ej : way t.mask h n = j at hn hjm
  have c1 := (below_cut T.ris j).1
  have hpl : SetTable.below t.place j ≤ t.place.toList.length := by
    rw [Array.length_toList]
    exact c1
  have hph : SetTable.below t.place j ≤ hs.length := T.sz ▸ c1
  have hsz : t.place.toList.length = hs.length := by rw [Array.length_toList, T.sz]
  have hpp := put_place t j
  have hsize : (t.put j).1.place.size = hs.length + 1 := by rw [← Array.length_toList, hpp, len_ins _ hpl, hsz]
  have up : ∀ {x : Nat}, x ∈ t.place.toList → x ∈ (t.put j).1.place.toList := fun hx => by
    rw [hpp]
    exact mem_ins.2 (.inr hx)
  refine ⟨rfl, hph, ?_, rfl, rfl, rfl, ?_⟩
  · refine { ris := ris_insert T.ris fun e => hn (List.mem_of_getElem? (by rw [Array.getElem?_toList]; exact e)), dm := put_dm T.dm j, sz := by rw [len_ins _ hph]; exact hsize, mok := T.mok, bd := fun x hx => ?_, reach := fun i h' j' h1 h2 => ?_ }
    · rw [hpp] at hx
      rcases mem_ins.1 hx with rfl | z
      · exact hjm
      · exact T.bd x z
    · rw [tins_get hs hph] at h1
      rw [hpp, tins_get _ hpl] at h2
      show ∃ k, way t.mask h' k = j' ∧ ∀ k', k' < k → way t.mask h' k' ∈ (t.put j).1.place.toList
      by_cases c : i < SetTable.below t.place j
      · rw [if_pos c] at h1 h2
        obtain ⟨k, e, z⟩ := T.reach i h' j' h1 h2
        exact ⟨k, e, fun k' hk' => up (z k' hk')⟩
      · rw [if_neg c] at h1 h2
        by_cases d : i = SetTable.below t.place j
        · rw [if_pos d] at h1 h2
          cases h1
          cases h2
          exact ⟨n, ej, fun k' hk' => up (hb k' hk')⟩
        · rw [if_neg d] at h1 h2
          obtain ⟨k, e, z⟩ := T.reach (i - 1) h' j' h1 h2
          exact ⟨k, e, fun k' hk' => up (z k' hk')⟩
  · show (t.put j).1.place.size + (t.put j).1.dummies.size = hs.length + 1
    rw [hsize, put_dm T.dm j]
    rfl
end
end Pu
namespace Pu
open PySem PySem.Spec PyProof.Rows L2
/-! ### a set whose members are of one kind of key -/
section
variable {P : Program} {w : World}
/-- what a set wants of a kind of key beyond what a dict wants -/
structure Asked {K : Type} [DecidableEq K] (knd : HeapKind P w K) : Prop where
  seen : ∀ {A : Around} {E : Value → Shared → Prop} {s : Shared} {k : K} {b : Addr} {Q : Bool → Shared → Prop}, knd.is s.heap k b → ∀ {ys : List Value}, (∀ y ∈ ys, ∃ k' c, y = Value.ref c ∧ knd.is s.heap k' c) → Q false s → wpAny (model P w) A (searchCouldBeSeen (.ref b) ys) Q E s
  byv : ∀ {A : Around} {E : Value → Shared → Prop} {s : Shared} {k : K} {b : Addr} {Q : Bool → Shared → Prop}, knd.is s.heap k b → Q true s → wpAny (model P w) A (hashByValue 8 (.ref b)) Q E s
  stay : knd.Stays
theorem Asked.keep {K : Type} [DecidableEq K] {knd : HeapKind P w K} (S : Asked knd) {h h' : Heap} {k : K} {b : Addr} (hb : knd.is h k b) (hk : ∀ c o, h.get? c = some o → h'.get? c = some o) : knd.is h' k b :=
  S.stay.stays (fun c o _ _ hc _ => hk c o hc) hb
section
variable {K : Type} [DecidableEq K] {knd : HeapKind P w K} {A : Around} {E : Value → Shared → Prop} {s : Shared}
def kRows (knd : HeapKind P w K) (L : List (Addr × K)) : List (Int × Value) := L.map fun p => (knd.hash p.2, Value.ref p.1)
theorem kRows_len (L : List (Addr × K)) : (kRows knd L).length = L.length := List.length_map ..
/-- at a stands a set of keys of the kind -/
structure SetK (knd : HeapKind P w K) (h : Heap) (a : Addr) (L : List (Addr × K)) (es : Array (Int × Value)) (ep : Nat) (t : SetTable) : Prop where
  ob : ∃ o, h.get? a = some o ∧ o.ExactSet ∧ o.data = .set es ep t
  rows : es.toList = kRows knd L
  tab : TabW t (L.map fun p => knd.hash p.2)
  nd : (L.map (·.2)).Nodup
  key : ∀ p ∈ L, knd.is h p.2 p.1
  plain : t.plain = true
  led : w.params.followText "set-order" = true ∨ t.led = true
  room : L.length * 5 < t.mask * 3
  few : L.length < 300
variable {a : Addr} {L : List (Addr × K)} {es : Array (Int × Value)} {ep : Nat} {t : SetTable}
theorem SetK.size (R : SetK knd s.heap a L es ep t) : es.size = L.length := by
  rw [← Array.length_toList, R.rows, kRows_len]
end
end
end Pu
namespace Pu
open PySem PySem.Spec PyProof.Rows L2
section
variable {P : Program} {w : World} {K : Type} [DecidableEq K] {knd : HeapKind P w K} {A : Around} {E : Value → Shared → Prop} {s : Shared}
variable {a : Addr} {L : List (Addr × K)} {es : Array (Int × Value)} {ep : Nat} {t : SetTable}
/-- what the set has got of the first i items -/
structure Has (ks : List (Addr × K)) (i : Nat) (L : List (Addr × K)) : Prop where
  sub : ∀ p ∈ L, p ∈ ks.take i
  all : ∀ p ∈ ks.take i, p.2 ∈ L.map (·.2)
  len : L.length ≤ i
theorem Has.zero (ks : List (Addr × K)) : Has ks 0 [] := ⟨fun p h => (by cases h), fun p h => (by simp at h), Nat.le_refl _⟩
theorem Has.step {ks L L' : List (Addr × K)} {i : Nat} {x : Addr × K} (g : Has ks i L) (h : ks[i]? = some x) (c1 : x.2 ∈ L.map (·.2) → L' = L) (c2 : x.2 ∉ L.map (·.2) → L'.Perm (x :: L)) : Has ks (i + 1) L' := by
  by_cases hm : x.2 ∈ L.map (·.2)
  · rw [c1 hm]
    refine ⟨fun p hp => ?_, fun p hp => ?_, Nat.le_succ_of_le g.len⟩
    · rw [take_next h]
      exact List.mem_append_left _ (g.sub p hp)
    · rw [take_next h] at hp
      rcases List.mem_append.mp hp with z | z
      · exact g.all p z
      · rw [List.mem_singleton.mp z]; exact hm
  · have pm := c2 hm
    refine ⟨fun p hp => ?_, fun p hp => ?_, ?_⟩
    · rw [take_next h]
      rcases List.mem_cons.mp (pm.mem_iff.mp hp) with e | z
      · rw [e]; exact List.mem_append_right _ (List.mem_singleton.mpr rfl)
      · exact List.mem_append_left _ (g.sub p z)
    · rw [(pm.map (·.2)).mem_iff, List.map_cons]
      rw [take_next h] at hp
      rcases List.mem_append.mp hp with z | z
      · exact List.mem_cons_of_mem _ (g.all p z)
      · rw [List.mem_singleton.mp z]; exact List.mem_cons_self
    · rw [pm.length_eq, List.length_cons]
      exact Nat.succ_le_succ g.len
theorem SetK.keep {h h' : Heap} (R : SetK knd h a L es ep t) (ha : ∀ o, h.get? a = some o → h'.get? a = some o) (ht : ∀ p ∈ L, knd.is h' p.2 p.1) : SetK knd h' a L es ep t := by
  obtain ⟨o, ho, r⟩ := R.ob
  exact { ob := ⟨o, ha o ho, r⟩, rows := R.rows, tab := R.tab, nd := R.nd, key := ht, plain := R.plain, led := R.led, room := R.room, few := R.few }
end
end Pu
namespace Pu
open PySem PySem.Spec PyProof.Rows L2
end Pu
namespace Pu
open PySem PySem.Spec PyProof.Rows L2
/-! ### len(set(a list of tuples within tuples)) -/
end Pu
namespace Pu
open PySem PySem.Spec PyProof.Rows L2
end Pu
namespace Pu
open PySem PySem.Spec PyProof.Rows L2
end Pu
namespace Pu
open PySem PySem.Spec PyProof.Rows L2
/-! ### try .. except C as e: x = e, C a class of the program that is raised itself -/
end Pu
namespace Pu
open PySem PySem.Spec PyProof.Rows L2
variable [TabT]
/-! ### f(..) that lends some owned names, at any places -/
inductive Ar where
  | l (i : Nat) | d (m : M D)
abbrev Az := List (Sum Nat D)
def arE : List Ar → M Az
  | [] => fun r => .ok [] r
  | .l i :: as => fun r => match getC i r with
    | none => .no
    | some _ => (arE as r).bind fun xs r => .ok (.inl i :: xs) r
  | .d m :: as => fun r => (m r).bind fun d r => (arE as r).bind fun xs r => .ok (.inr d :: xs) r
def arI : List Ar → List Nat
  | [] => []
  | .l i :: as => i :: arI as
  | .d _ :: as => arI as
def azI : Az → List Nat
  | [] => []
  | .inl i :: as => i :: azI as
  | .inr _ :: as => azI as
def azS : Az → En → Option (List Sl)
  | [], _ => some []
  | .inl i :: xs, r => match getC i r with
    | some ct => (azS xs r).map (Sl.io ct :: ·)
    | none => none
  | .inr d :: xs, r => (azS xs r).map (Sl.v d :: ·)
def azB : Az → List Sl → En → Option En
  | [], [], r => some r
  | .inl i :: xs, .io ct :: z, r => azB xs z (putC i ct r)
  | .inr _ :: xs, _ :: z, r => azB xs z r
  | _, _, _ => none
def cCallA (f : List Sl → Re RV) (as : List Ar) : M RV := fun r => (arE as r).bind fun xs r => match azS xs r with
  | some rs => (match f rs with
    | .ok rv z => (match azB xs z r with
      | some r' => .ok rv r'
      | none => .no)
    | .ex e z => (match azB xs z r with
      | some r' => .ex e r'
      | none => .no)
    | .no => .no)
  | none => .no
omit [TabT] in
theorem arE_sh : ∀ {as : List Ar} {r : En} {xs : Az} {r' : En}, arE as r = .ok xs r' → azI xs = arI as ∧ xs.length = as.length
  | [], r, xs, r', h => by cases h; exact ⟨rfl, rfl⟩
  | .l i :: as, r, xs, r', h => by
    unfold arE at h
    split at h
    · cases h
    · cases hm : arE as r with
      | no => rw [hm] at h; cases h
      | ex e q => rw [hm] at h; cases h
      | ok ys q =>
        rw [hm] at h
        cases h
        obtain ⟨g1, g2⟩ := arE_sh hm
        exact ⟨congrArg (i :: ·) g1, congrArg Nat.succ g2⟩
  | .d m :: as, r, xs, r', h => by
    unfold arE at h
    cases hm : m r with
    | no => rw [hm] at h; cases h
    | ex e q => rw [hm] at h; cases h
    | ok d q =>
      rw [hm] at h
      have h : (arE as q).bind (fun xs r => Re.ok (.inr d :: xs) r) = .ok xs r' := h
      cases hm2 : arE as q with
      | no => rw [hm2] at h; cases h
      | ex e q => rw [hm2] at h; cases h
      | ok ys q2 =>
        rw [hm2] at h
        cases h
        obtain ⟨g1, g2⟩ := arE_sh hm2
        exact ⟨g1, congrArg Nat.succ g2⟩
inductive ZAll (K : PySem.W.Frag) (F : Hp) (st : L2.St) : List V → Az → Prop
  | nil : ZAll K F st [] []
  | l {v : V} {vs : List V} {i : Nat} {xs : Az} : st[i]? = some (some v) → ZAll K F st vs xs → ZAll K F st (v :: vs) (.inl i :: xs)
  | d {v : V} {vs : List V} {d : D} {xs : Az} : Rp K F v d → ZAll K F st vs xs → ZAll K F st (v :: vs) (.inr d :: xs)
omit [TabT] in
theorem ZAll.len {K : PySem.W.Frag} {F : Hp} {st : L2.St} : ∀ {vs : List V} {xs : Az}, ZAll K F st vs xs → vs.length = xs.length
  | _, _, .nil => rfl
  | _, _, .l _ t => congrArg Nat.succ t.len
  | _, _, .d _ t => congrArg Nat.succ t.len
omit [TabT] in
theorem ZAll.getD {K : PySem.W.Frag} {F : Hp} {st : L2.St} : ∀ {vs : List V} {xs : Az} {p : Nat} {d : D}, ZAll K F st vs xs → xs[p]? = some (.inr d) → ∃ v, vs[p]? = some v ∧ Rp K F v d
  | _, _, _, _, .nil, e => by simp at e
  | _, _, 0, _, .l h t, e => by simp at e
  | _, _, 0, _, .d h t, e => by
    simp at e
    subst e
    exact ⟨_, rfl, h⟩
  | _, _, p + 1, _, .l h t, e => by
    obtain ⟨v, g1, g2⟩ := ZAll.getD (p := p) t (by simpa using e)
    exact ⟨v, by simpa using g1, g2⟩
  | _, _, p + 1, _, .d h t, e => by
    obtain ⟨v, g1, g2⟩ := ZAll.getD (p := p) t (by simpa using e)
    exact ⟨v, by simpa using g1, g2⟩
omit [TabT] in
theorem ZAll.getL {K : PySem.W.Frag} {F : Hp} {st : L2.St} : ∀ {vs : List V} {xs : Az} {p i : Nat}, ZAll K F st vs xs → xs[p]? = some (.inl i) → ∃ v, vs[p]? = some v ∧ st[i]? = some (some v)
  | _, _, _, _, .nil, e => by simp at e
  | _, _, 0, i, .l h t, e => by
    simp at e
    subst e
    exact ⟨_, rfl, h⟩
  | _, _, 0, i, .d h t, e => by simp at e
  | _, _, p + 1, _, .l h t, e => by
    obtain ⟨v, g1, g2⟩ := ZAll.getL (p := p) t (by simpa using e)
    exact ⟨v, by simpa using g1, g2⟩
  | _, _, p + 1, _, .d h t, e => by
    obtain ⟨v, g1, g2⟩ := ZAll.getL (p := p) t (by simpa using e)
    exact ⟨v, by simpa using g1, g2⟩
omit [TabT] in
theorem ZAll.mono {K : PySem.W.Frag} {F F' : Hp} {st : L2.St} (e : Ex F F') : ∀ {vs : List V} {xs : Az}, ZAll K F st vs xs → ZAll K F' st vs xs
  | _, _, .nil => .nil
  | _, _, .l h t => .l h (t.mono e)
  | _, _, .d h t => .d (dp_mono e h) (t.mono e)
omit [TabT] in
theorem mem_azI : ∀ {xs : Az} {i p : Nat}, xs[p]? = some (.inl i) → i ∈ azI xs
  | [], _, _, h => by simp at h
  | .inl j :: xs, i, 0, h => by
    simp at h
    subst h
    exact List.mem_cons_self ..
  | .inl j :: xs, i, p + 1, h => List.mem_cons_of_mem _ (mem_azI (p := p) (by simpa using h))
  | .inr _ :: xs, i, 0, h => by simp at h
  | .inr _ :: xs, i, p + 1, h => mem_azI (xs := xs) (p := p) (by simpa using h)
omit [TabT] in
theorem azI_inj : ∀ {xs : Az} {i p q : Nat}, (azI xs).Nodup → xs[p]? = some (.inl i) → xs[q]? = some (.inl i) → p = q
  | [], _, _, _, _, h, _ => by simp at h
  | .inl j :: xs, i, 0, 0, _, _, _ => rfl
  | .inl j :: xs, i, 0, q + 1, n, h, g => by
    simp at h
    subst h
    exact absurd (mem_azI (p := q) (by simpa using g)) (List.nodup_cons.mp n).1
  | .inl j :: xs, i, p + 1, 0, n, h, g => by
    simp at g
    subst g
    exact absurd (mem_azI (p := p) (by simpa using h)) (List.nodup_cons.mp n).1
  | .inl j :: xs, i, p + 1, q + 1, n, h, g => congrArg Nat.succ (azI_inj (List.nodup_cons.mp n).2 (by simpa using h) (by simpa using g))
  | .inr _ :: xs, i, 0, q, n, h, g => by simp at h
  | .inr _ :: xs, i, p + 1, 0, n, h, g => by simp at g
  | .inr _ :: xs, i, p + 1, q + 1, n, h, g => congrArg Nat.succ (azI_inj (xs := xs) n (by simpa using h) (by simpa using g))
omit [TabT] in
theorem azS_at : ∀ {xs : Az} {r : En} {rs : List Sl}, azS xs r = some rs → rs.length = xs.length ∧ ∀ (p : Nat) (s : Sl), rs[p]? = some s → (∃ i ct, xs[p]? = some (.inl i) ∧ getC i r = some ct ∧ s = .io ct) ∨ (∃ d, xs[p]? = some (.inr d) ∧ s = .v d)
  | [], r, rs, h => by
    cases h
    exact ⟨rfl, fun p s e => by simp at e⟩
  | .inl i :: xs, r, rs, h => by
    unfold azS at h
    split at h
    · rename_i ct hc
      cases hx : azS xs r with
      | none => rw [hx] at h; cases h
      | some ys =>
        rw [hx] at h
        cases h
        obtain ⟨l, g⟩ := azS_at hx
        refine ⟨congrArg Nat.succ l, fun p s e => ?_⟩
        cases p with
        | zero =>
          simp at e
          exact .inl ⟨i, ct, rfl, hc, e.symm⟩
        | succ p =>
          rcases g p s (by simpa using e) with ⟨i2, ct2, z1, z2, z3⟩ | ⟨d, z1, z2⟩
          · exact .inl ⟨i2, ct2, by simpa using z1, z2, z3⟩
          · exact .inr ⟨d, by simpa using z1, z2⟩
    · cases h
  | .inr d :: xs, r, rs, h => by
    unfold azS at h
    cases hx : azS xs r with
    | none => rw [hx] at h; cases h
    | some ys =>
      rw [hx] at h
      cases h
      obtain ⟨l, g⟩ := azS_at hx
      refine ⟨congrArg Nat.succ l, fun p s e => ?_⟩
      cases p with
      | zero =>
        simp at e
        exact .inr ⟨d, rfl, e.symm⟩
      | succ p =>
        rcases g p s (by simpa using e) with ⟨i2, ct2, z1, z2, z3⟩ | ⟨d, z1, z2⟩
        · exact .inl ⟨i2, ct2, by simpa using z1, z2, z3⟩
        · exact .inr ⟨d, by simpa using z1, z2⟩
omit [TabT] in
/-- the slots behind it: those lent hold what came back -/
theorem azB_at : ∀ {xs : Az} {z : List Sl} {r r' : En}, (azI xs).Nodup → azB xs z r = some r' → r'.length = r.length ∧
    ∀ (j : Nat) (s' : Sl), r'[j]? = some s' → (j ∉ azI xs ∧ r[j]? = some s') ∨ ∃ (p : Nat) (s : Sl) (ct' : Ct), xs[p]? = some (.inl j) ∧ r[j]? = some s ∧ s' = s.put ct' ∧ z[p]? = some (.io ct')
  | [], [], r, r', _, h => by
    cases h
    exact ⟨rfl, fun j s e => .inl ⟨fun z => (by simp [azI] at z), e⟩⟩
  | [], _ :: _, r, r', _, h => by simp [azB] at h
  | .inl i :: xs, z, r, r', nd, h => by
    match z, h with
    | .io ct :: z, h =>
      have h : azB xs z (putC i ct r) = some r' := h
      have nd' : i ∉ azI xs ∧ (azI xs).Nodup := List.nodup_cons.mp nd
      obtain ⟨l, g⟩ := azB_at nd'.2 h
      have pl : (putC i ct r).length = r.length := by
        unfold putC
        split <;> simp
      refine ⟨l.trans pl, fun j s' e => ?_⟩
      rcases g j s' e with ⟨nj, e2⟩ | ⟨p, s, ct', z1, z2, z3, z4⟩
      · by_cases ej : j = i
        · subst ej
          unfold putC at e2
          split at e2
          · rename_i s hs
            rw [List.getElem?_set_self (List.getElem?_eq_some_iff.mp hs).1] at e2
            cases e2
            exact .inr ⟨0, s, ct, rfl, hs, rfl, rfl⟩
          · rename_i hs
            rw [hs] at e2
            cases e2
        · refine .inl ⟨fun q => (List.mem_cons.mp q).elim ej nj, ?_⟩
          unfold putC at e2
          split at e2
          · rwa [List.getElem?_set_ne fun q => ej q.symm] at e2
          · exact e2
      · have ne : i ≠ j := fun q => nd'.1 (q ▸ mem_azI z1)
        refine .inr ⟨p + 1, s, ct', by simpa using z1, ?_, z3, by simpa using z4⟩
        unfold putC at z2
        split at z2
        · rwa [List.getElem?_set_ne ne] at z2
        · exact z2
    | [], h => simp [azB] at h
    | .unk :: _, h => simp [azB] at h
    | .v _ :: _, h => simp [azB] at h
    | .o _ :: _, h => simp [azB] at h
    | .pin :: _, h => simp [azB] at h
  | .inr d :: xs, [], r, r', _, h => by simp [azB] at h
  | .inr d :: xs, y :: z, r, r', nd, h => by
    have h : azB xs z r = some r' := h
    obtain ⟨l, g⟩ := azB_at (xs := xs) nd h
    refine ⟨l, fun j s' e => ?_⟩
    rcases g j s' e with ⟨nj, e2⟩ | ⟨p, s, ct', z1, z2, z3, z4⟩
    · exact .inl ⟨nj, e2⟩
    · exact .inr ⟨p + 1, s, ct', by simpa using z1, z2, z3, by simpa using z4⟩
section
variable {X : Cx} {c : Cc} {k n : Nat} {x : Str} {f : List Sl → Re RV} {e : Expr} {es : List Expr} {p pos : Pos}
def tZ (c : Cc) (m : M Az) : TA := fun st H Q => ∃ pa H0 F0 F r, Ok c.K pa H0 F0 F H st r ∧ Po (XW c pa H0 F0 F) (m r) fun xs r' => ∀ F' H' vs, Ok c.K pa H0 F0 F' H' st r' → Ex F F' → ZAll c.K F' st vs xs → Q vs H'
theorem z_nil : PA X [] (tZ c (arE [])) := pa_cq pa_nil fun st H Q ⟨pa, H0, F0, F, r, ok, po⟩ => po F H [] ok (Ex.refl F) .nil
theorem z_d {m : M D} {as : List Ar} (h : PE X e (tM c m)) (hr : PA X es (tZ c (arE as))) (hs : starEach (e :: es) X.env = (false, eval e X.env) :: starEach es X.env := by rfl) : PA X (e :: es) (tZ c (arE (.d m :: as))) :=
  pa_cq (pa_cons h hr hs) fun st H Q ⟨pa, H0, F0, F, r, ok, po⟩ => by
    refine ⟨pa, H0, F0, F, r, ok, ?_⟩
    have po : Po (XW c pa H0 F0 F) ((m r).bind fun d r => (arE as r).bind fun xs r => Re.ok (Sum.inr d :: xs) r) _ := po
    cases hm : m r with
    | no => rw [hm] at po; exact po.elim
    | ex ee r1 => rw [hm] at po; exact po
    | ok d r1 =>
      rw [hm] at po
      intro F1 H1 v k1 e1 dp
      refine ⟨pa, H0, F0, F1, r1, k1, ?_⟩
      have po : Po (XW c pa H0 F0 F) ((arE as r1).bind fun xs r => Re.ok (Sum.inr d :: xs) r) _ := po
      cases hm2 : arE as r1 with
      | no => rw [hm2] at po; exact po.elim
      | ex ee r2 => rw [hm2] at po; exact XW.mono e1 _ _ po
      | ok xs r2 =>
        rw [hm2] at po
        exact fun F2 H2 vs k2 e2 za => po F2 H2 _ k2 (e1.trans e2) (.d (dp_mono e2 dp) za)
theorem z_l (i : Nat) {y : Str} {py : Pos} {as : List Ar} (hr : PA X es (tZ c (arE as))) (hN : X.N[i]? = some y := by rfl) (hv : Vis X.env.scope y := by first | exact Or.inl rfl | exact Or.inr (Or.inl rfl) | exact Or.inr (Or.inr rfl)) (hd : (y == ("__debug__" : Str)) = false := by decide) (hcd : (y == ("__classdict__" : Str)) = false := by decide)
    (hs : starEach (.Name y py :: es) X.env = (false, eval (.Name y py) X.env) :: starEach es X.env := by rfl) : PA X (.Name y py :: es) (tZ c (arE (.l i :: as))) :=
  pa_cq (pa_cons (pe_var (i := i) hN hv hd hcd) hr hs) fun st H Q ⟨pa, H0, F0, F, r, ok, po⟩ => by
    unfold arE at po
    cases hgc : getC i r with
    | none => rw [hgc] at po; exact po.elim
    | some ct0 =>
      rw [hgc] at po
      obtain ⟨s0, hs0, hso0⟩ := getC_some hgc
      obtain ⟨a0, hv0, _⟩ := ok.ownd hs0 hso0
      refine ⟨_, hv0, pa, H0, F0, F, r, ok, ?_⟩
      have po : Po (XW c pa H0 F0 F) ((arE as r).bind fun xs r => Re.ok (Sum.inl i :: xs) r) _ := po
      cases hm2 : arE as r with
      | no => rw [hm2] at po; exact po.elim
      | ex ee r2 => rw [hm2] at po; exact po
      | ok xs r2 =>
        rw [hm2] at po
        exact fun F2 H2 vs k2 e2 za => po F2 H2 _ k2 e2 (.l hv0 za)
theorem callA {F H : Hp} {st : L2.St} {r : En} {pa : Nat → Addr} {H0 F0 F00 : Hp} {vs : List V} {xs : Az} {Q : VK} (hn : xs.length = n) (nd : (azI xs).Nodup) (k1 : Ok c.K pa H0 F0 F H st r) (za : ZAll c.K F st vs xs)
    (e0 : Ex F00 F) (q : Po (XW c pa H0 F0 F) (match azS xs r with
      | some rs => (match f rs with
        | .ok rv z => (match azB xs z r with
          | some r' => .ok rv r'
          | none => .no)
        | .ex e z => (match azB xs z r with
          | some r' => .ex e r'
          | none => .no)
        | .no => .no)
      | none => .no) fun rv r' => ∀ F' H' v, Ok c.K pa H0 F0 F' H' st r' → Ex F00 F' → RvOk c.K H0 F' H' st r' v rv → Q v H') : spG c.K c.mg n f vs H Q (fun cls d H' => c.W cls d st H') := by
  cases hS : azS xs r with
  | none => rw [hS] at q; exact q.elim
  | some rs =>
    rw [hS] at q
    dsimp only at q
    obtain ⟨hl, hat⟩ := azS_at hS
    have hvl : vs.length = xs.length := za.len
    let pa' : Nat → Addr := fun p => match vs[p]? with
      | some (.ref a) => a
      | _ => 0
    let Hk : Hp := Hless H st r (azI xs)
    -- a lent place
    have lent : ∀ (p : Nat) (s' : Sl) (c' : Ct), rs[p]? = some s' → s'.own = some c' → ∃ i s a, xs[p]? = some (.inl i) ∧ r[i]? = some s ∧ s.own = some c' ∧ st[i]? = some (some (.ref a)) ∧ vs[p]? = some (.ref a) ∧ s' = .io c' ∧ F a = none ∧ H0 a = none ∧ CtOk c.K F H a c' := fun p s' c' h o => by
      rcases hat p s' h with ⟨i, ct, z1, z2, rfl⟩ | ⟨d, z1, rfl⟩
      · cases o
        obtain ⟨s, hs, hso⟩ := getC_some z2
        obtain ⟨a, ha, nF, n0, hct⟩ := k1.ownd hs hso
        obtain ⟨v, g1, g2⟩ := za.getL z1
        rw [ha] at g2
        cases g2
        exact ⟨i, s, a, z1, hs, hso, ha, g1, rfl, nF, n0, hct⟩
      · cases o
    have svp : ∀ (p : Nat) (v : V), vs[p]? = some v → (vs.map some)[p]? = some (some v) := fun p v h => by
      rw [List.getElem?_map, h]
      rfl
    have svq : ∀ (p : Nat) (v : V), (vs.map some)[p]? = some (some v) → vs[p]? = some v := fun p v h => by
      rw [List.getElem?_map] at h
      cases h2 : vs[p]? with
      | none => rw [h2] at h; cases h
      | some w => rw [h2] at h; cases h; rfl
    have okA : Ok c.K pa' Hk F F H (vs.map some) rs := by
      refine ⟨Hless.ex, Ex.refl F, k1.fH, fun _ _ h => h, by rw [List.length_map, hvl, hl], fun j s' h n => ?_, k1.tb, fun j1 j2 s1 s2 c1 c2 b ne h1 h2 o1 o2 g1 g2 => ?_, fun j1 s1 c1 a1 b h1 h2 h3 h4 => ?_⟩
      · rcases hat j s' h with ⟨i, ct, z1, z2, rfl⟩ | ⟨d, z1, rfl⟩
        · obtain ⟨i', s, a, y1, y2, y3, y4, y5, _, y6, y7, y8⟩ := lent j _ ct h rfl
          refine ⟨.ref a, svp j _ y5, ?_⟩
          have e : pa' j = a := by
            show (match vs[j]? with
              | some (V.ref a) => a
              | _ => 0) = a
            rw [y5]
          show _ = V.ref (pa' j) ∧ _
          rw [e]
          exact ⟨rfl, y6, Hless.at_ ⟨i', mem_azI y1, s, ct, a, y2, y3, y4, .inl rfl⟩, y8⟩
        · obtain ⟨v, g1, g2⟩ := za.getD z1
          exact ⟨v, svp j _ g1, g2⟩
      · obtain ⟨i1, t1, a1, y1, y2, y3, y4, y5, _⟩ := lent j1 s1 c1 h1 o1
        obtain ⟨i2, t2, a2, w1, w2, w3, w4, w5, _⟩ := lent j2 s2 c2 h2 o2
        have g1 := svq _ _ g1
        have g2 := svq _ _ g2
        rw [y5] at g1
        rw [w5] at g2
        cases g1
        cases g2
        by_cases ei : i1 = i2
        · subst ei
          exact ne (azI_inj nd y1 w1)
        · exact k1.dis i1 i2 t1 t2 c1 c2 _ ei y2 w2 y3 w3 y4 w4
      · obtain ⟨i1, t1, a2, y1, y2, y3, y4, y5, _⟩ := lent j1 s1 c1 h1 h2
        have h3 := svq _ _ h3
        rw [y5] at h3
        have h3 : a2 = a1 := by injection h3 with h3; injection h3
        subst h3
        obtain ⟨f1, f2, f3⟩ := k1.inn i1 t1 c1 a2 b y2 y3 y4 h4
        refine ⟨f1, Hless.at_ ⟨i1, mem_azI y1, t1, c1, a2, y2, y3, y4, .inr h4⟩, fun j2 s2 c2 a3 g1 g2 g3 => ?_⟩
        obtain ⟨i2, t2, a4, w1, w2, w3, w4, w5, _⟩ := lent j2 s2 c2 g1 g2
        have g3 := svq _ _ g3
        rw [w5] at g3
        have g3 : a4 = a3 := by injection g3 with g3; injection g3
        subst g3
        obtain ⟨x1, x2⟩ := f3 i2 t2 c2 a4 w2 w3 w4
        exact ⟨x1, fun nj => x2 fun ei => nj (azI_inj nd (ei ▸ w1) y1)⟩
    have ao : ArgsOk rs := fun s' hs' => by
      obtain ⟨p, hp⟩ := List.mem_iff_getElem?.mp hs'
      rcases hat p s' hp with ⟨i, ct, z1, z2, rfl⟩ | ⟨d, z1, rfl⟩
      · exact .inr ⟨ct, rfl⟩
      · exact .inl ⟨d, rfl⟩
    refine ⟨by rw [hvl]; exact hn, pa', Hk, F, rs, okA, ao, ?_⟩
    have bk : ∀ {z : List Sl} {r' : En}, azB xs z r = some r' → BackOk st r r' (azI xs) (vs.map some) z := fun {z r'} hz => by
      obtain ⟨l, g⟩ := azB_at nd hz
      refine ⟨l, fun j s' h => ?_⟩
      rcases g j s' h with ⟨nj, e⟩ | ⟨p, s, ct', z1, z2, z3, z4⟩
      · exact .inl ⟨nj, e⟩
      · obtain ⟨w, hw⟩ : ∃ w, rs[p]? = some w := by
          have : p < xs.length := (List.getElem?_eq_some_iff.mp z1).1
          exact ⟨_, List.getElem?_eq_getElem (by omega)⟩
        rcases hat p w hw with ⟨i, ct, y1, y2, rfl⟩ | ⟨d, y1, rfl⟩
        · rw [z1] at y1
          cases y1
          obtain ⟨i1, t1, a2, y1, y2', y3, y4, y5, _⟩ := lent p _ ct hw rfl
          rw [z1] at y1
          cases y1
          rw [z2] at y2'
          cases y2'
          exact .inr ⟨p, s, ct, ct', a2, mem_azI z1, z2, y3, y4, z3, z4, svp p _ y5⟩
        · rw [z1] at y1
          cases y1
    have grow : ∀ {F' H' : Hp} {z : List Sl} {r' : En}, Ok c.K pa' Hk F F' H' (vs.map some) z → azB xs z r = some r' → Ok c.K pa H0 F0 F' H' st r' := fun k2 hz => k1.lent k2 (bk hz)
    cases hf : f rs with
    | no => rw [hf] at q; exact q.elim
    | ex ee z =>
      rw [hf] at q
      dsimp only at q
      cases hz : azB xs z r with
      | none => rw [hz] at q; exact q.elim
      | some r' =>
        rw [hz] at q
        exact fun F' H' cls dd k2 xo => q F' H' st cls dd (grow k2 hz) k2.fF xo
    | ok rv z =>
      rw [hf] at q
      dsimp only at q
      cases hz : azB xs z r with
      | none => rw [hz] at q; exact q.elim
      | some r' =>
        rw [hz] at q
        exact fun F' H' v k2 hv => q F' H' v (grow k2 hz) (e0.trans k2.fF) (hv.lent k1 k2 (bk hz))
theorem o_callA {as : List Ar} (G : Fn X.prog X.w X.K X.mg X.base k x n f) (hr : Rm k X.A) (tk : Takes X c.W) (ha : PA X (e :: es) (tZ c (arE as))) (hnm : as.length = n := by rfl) (nd : (arI as).Nodup := by decide) (hK : c.K = X.K := by rfl) (hM : c.mg = X.mg := by rfl) (hg : Gl X x := by rfl)
    (hdb : (x == ("__debug__" : Str)) = false := by decide) (he : starEach (e :: es) X.env = (false, eval e X.env) :: starEach es X.env := by rfl) (hpl : (backTo pos (starEach es X.env)).any (·.1) = false := by rfl) :
    PE X (.Call (.Name x p) (e :: es) [] pos) (tO c (cCallA f as)) := by
  obtain ⟨a, fd, ps, g1, g2, g3, g4⟩ := G.ex
  refine pe_cq (pe_callG (Ew := fun st cls d H' => c.W cls d st H') g4 hr hg g1 g2 g3 (fun σ => passAt tk σ) ha hdb he hpl) fun st H Q ⟨pa, H0, F0, F, r, ok, po⟩ => ?_
  refine ⟨pa, H0, F0, F, r, ok, ?_⟩
  unfold cCallA at po
  cases hm : arE as r with
  | no =>
    rw [hm] at po
    exact po.elim
  | ex ee r1 =>
    rw [hm] at po
    exact po
  | ok xs r1 =>
    rw [hm] at po
    intro F1 H1 vs k1 e1 za
    obtain ⟨s1, s2⟩ := arE_sh hm
    rw [← hK, ← hM]
    exact callA (s2.trans hnm) (by rw [s1]; exact nd) k1 za e1 (po.mono (XW.mono e1) fun _ _ x => x)
end
end Pu
namespace Pu
open PySem PySem.Spec PyProof.Rows L2
variable [TabT]
/-! ### for rows, .. in ((x, ..), (y["k"], ..), (y["l"], ..)): each list changed in its turn -/
section
variable {K : PySem.W.Frag} {pa pa' : Nat → Addr} {H0 H1 F0 F H : Hp} {st : L2.St} {r r' : En}
theorem Ok.nobH (k : Ok K pa H0 F0 F H st r) {p : Addr} (h : H0 p ≠ none) : Nob H st r p := fun i s c a h1 h2 h3 => by
  obtain ⟨a', g1, g2, g3, g4⟩ := k.ownd h1 h2
  rw [h3] at g1
  cases g1
  exact ⟨fun z => h (z ▸ g3), fun n => h (k.inn i s c a p h1 h2 h3 n).2.1⟩
theorem Ok.less (k : Ok K pa H0 F0 F H st r) (hl : r'.length = r.length) (h : ∀ (j : Nat) (s' : Sl), r'[j]? = some s' → r[j]? = some s' ∨ s' = .unk ∨ (s' = .pin ∧ st[j]? = some (some (.ref (pa j))))) : Ok K pa H0 F0 F H st r' := by
  have old : ∀ (j : Nat) (s' : Sl) (c : Ct), r'[j]? = some s' → s'.own = some c → r[j]? = some s' := fun j s' c h1 h2 => by
    rcases h j s' h1 with h3 | rfl | ⟨rfl, _⟩
    · exact h3
    · cases h2
    · cases h2
  refine ⟨k.hH, k.fF, k.fH, k.sep, by rw [hl]; exact k.len, fun j s' h1 n => ?_, k.tb, fun i j s q c c' a ne h1 h2 o1 o2 g1 g2 => k.dis i j s q c c' a ne (old i s c h1 o1) (old j q c' h2 o2) o1 o2 g1 g2, fun i s c a b h1 h2 h3 h4 => ?_⟩
  · rcases h j s' h1 with h3 | rfl | ⟨rfl, h3⟩
    · exact k.sl j s' h3 n
    · exact absurd rfl n
    · exact ⟨_, h3, rfl⟩
  · obtain ⟨g1, g2, g3⟩ := k.inn i s c a b (old i s c h1 h2) h2 h3 h4
    exact ⟨g1, g2, fun j q c' a' w1 w2 w3 => g3 j q c' a' (old j q c' w1 w2) w2 w3⟩
/-- an owned object becomes one that must come back -/
theorem Ok.toIo (k : Ok K pa H0 F0 F H st r) {i : Nat} {a : Addr} {c : Ct} (h : r[i]? = some (.o c)) (ha : st[i]? = some (some (.ref a))) (hp : pa' i = a) (hq : ∀ j, j ≠ i → pa' j = pa j) : Ok K pa' H0 F0 F H st (r.set i (.io c)) := by
  have li : i < r.length := (List.getElem?_eq_some_iff.mp h).1
  have view : ∀ (j : Nat) (s' : Sl), (r.set i (.io c))[j]? = some s' → (j = i ∧ s' = .io c) ∨ (j ≠ i ∧ r[j]? = some s') := fun j s' e => by
    by_cases q : i = j
    · subst q
      rw [List.getElem?_set_self li] at e
      cases e
      exact .inl ⟨rfl, rfl⟩
    · rw [List.getElem?_set_ne q] at e
      exact .inr ⟨fun z => q z.symm, e⟩
  have old : ∀ (j : Nat) (s' : Sl) (c' : Ct), (r.set i (.io c))[j]? = some s' → s'.own = some c' → ∃ s, r[j]? = some s ∧ s.own = some c' := fun j s' c' h1 h2 => by
    rcases view j s' h1 with ⟨rfl, rfl⟩ | ⟨_, h3⟩
    · exact ⟨_, h, h2⟩
    · exact ⟨s', h3, h2⟩
  refine ⟨k.hH, k.fF, k.fH, k.sep, by rw [List.length_set]; exact k.len, fun j s' h1 n => ?_, k.tb, fun i1 j1 s q c1 c2 a ne h1 h2 o1 o2 g1 g2 => ?_, fun i1 s c1 a1 b h1 h2 h3 h4 => ?_⟩
  · rcases view j s' h1 with ⟨rfl, rfl⟩ | ⟨nj, h3⟩
    · obtain ⟨v, g1, a', rfl, g2, g3, g4⟩ := k.sl j _ h (fun z => nomatch z)
      rw [ha] at g1
      cases g1
      refine ⟨_, ha, ?_⟩
      show V.ref a = V.ref (pa' j) ∧ F (pa' j) = none ∧ H0 (pa' j) = none ∧ CtOk K F H (pa' j) c
      rw [hp]
      exact ⟨rfl, g2, g3, g4⟩
    · obtain ⟨v, g1, g2⟩ := k.sl j s' h3 n
      refine ⟨v, g1, ?_⟩
      rw [hq j nj]
      exact g2
  · obtain ⟨s', y1, y2⟩ := old i1 s c1 h1 o1
    obtain ⟨q', y3, y4⟩ := old j1 q c2 h2 o2
    exact k.dis i1 j1 s' q' c1 c2 a ne y1 y3 y2 y4 g1 g2
  · obtain ⟨s', y1, y2⟩ := old i1 s c1 h1 h2
    obtain ⟨g1, g2, g3⟩ := k.inn i1 s' c1 a1 b y1 y2 h3 h4
    refine ⟨g1, g2, fun j q c' a' w1 w2 w3 => ?_⟩
    obtain ⟨q', y3, y4⟩ := old j q c' w1 w2
    exact g3 j q' c' a' y3 y4 w3
theorem Ok.pinS (k : Ok K pa H0 F0 F H st r) (S : Addr → Prop) (h1 : ∀ x, S x → H1 x = H x ∧ F x = none ∧ Nob H st r x) (h2 : ∀ x, ¬ S x → H1 x = H0 x) : Ok K pa H1 F0 F H st r := by
  classical
  refine k.frame ⟨fun x o e nt => ?_, fun x ps e => ?_⟩ (fun x z1 z2 => ?_) fun j s c a g1 g2 g3 => ?_
  · by_cases hx : S x
    · rw [(h1 x hx).1] at e
      exact e
    · rw [h2 x hx] at e
      exact k.hH.at_ x o e nt
  · by_cases hx : S x
    · rw [(h1 x hx).1] at e
      exact ⟨#[], by rw [Array.append_empty]; exact e⟩
    · rw [h2 x hx] at e
      exact k.hH.tb x ps e
  · by_cases hx : S x
    · exact absurd (h1 x hx).2.1 z2
    · rw [h2 x hx] at z1
      exact k.sep x z1 z2
  · obtain ⟨a', y1, y2, y3, y4⟩ := k.ownd g1 g2
    rw [g3] at y1
    cases y1
    refine ⟨?_, fun b hb => ?_⟩
    · rw [h2 a fun hx => ((h1 a hx).2.2 j s c a g1 g2 g3).1 rfl]
      exact y3
    · rw [h2 b fun hx => ((h1 b hx).2.2 j s c a g1 g2 g3).2 hb]
      exact (k.inn j s c a b g1 g2 g3 hb).2.1
theorem Ok.unpin (k : Ok K pa H1 F0 F H st r) (h : ∀ x, H0 x = H1 x ∨ H0 x = none) : Ok K pa H0 F0 F H st r := by
  have sub : ∀ x o, H0 x = some o → H1 x = some o := fun x o e => by
    rcases h x with g | g
    · rw [← g]; exact e
    · rw [g] at e; cases e
  have non : ∀ x, H1 x = none → H0 x = none := fun x e => by
    rcases h x with g | g
    · rw [g]; exact e
    · exact g
  refine k.frame ⟨fun x o e nt => k.hH.at_ x o (sub x o e) nt, fun x ps e => k.hH.tb x ps (sub x _ e)⟩ (fun x z1 z2 => k.sep x (fun q => z1 (non x q)) z2) fun j s c a g1 g2 g3 => ?_
  obtain ⟨a', y1, y2, y3, y4⟩ := k.ownd g1 g2
  rw [g3] at y1
  cases y1
  exact ⟨non a y3, fun b hb => non b (k.inn j s c a b g1 g2 g3 hb).2.1⟩
/-- a list that must stand is lent into a slot -/
theorem Ok.take (k : Ok K pa H1 F0 F H st r) {q : Nat} {qs : Sl} {b : Addr} {ws : List V} {L : List D} (hq : r[q]? = some qs) (hio : qs.isIo = false) (hb : H1 b = some (.lst ws)) (hF : F b = none) (hr : RpAll K F ws L) :
    Ok K (fun j => if j = q then b else pa j) (fun x => if x = b then none else H1 x) F0 F H (st.set q (some (.ref b))) (r.set q (.io (.l L))) := by
  have lq : q < r.length := (List.getElem?_eq_some_iff.mp hq).1
  have nb : Nob H st r b := k.nobH (ne_none hb)
  have hHb : H b = some (.lst ws) := k.hH.at_ b _ hb fun ps z => nomatch z
  have k1 : Ok K pa (fun x => if x = b then none else H1 x) F0 F H st r := k.unpin fun x => by
    by_cases e : x = b
    · exact .inr (if_pos e)
    · exact .inl (if_neg e)
  have k2 : Ok K pa (fun x => if x = b then none else H1 x) F0 F H (st.set q (some (.ref b))) (r.set q (.o (.l L))) := k1.set (s := .o (.l L)) (fun s' e => by
    rw [hq] at e
    cases e
    exact hio) rfl ⟨b, rfl, hF, if_pos rfl, ws, hHb, hr⟩ fun a c e1 e2 => by
      cases e1
      cases e2
      exact .l (nb.unk)
  have k3 := k2.toIo (pa' := fun j => if j = q then b else pa j) (i := q) (a := b) (c := .l L) (List.getElem?_set_self lq) (List.getElem?_set_self (by rw [k.len]; exact lq)) (if_pos rfl) fun j nj => if_neg nj
  rw [List.set_set] at k3
  exact k3
end
/-- the state between two turns -/
def S3 (c : Cc) (pa : Nat → Addr) (H0 F0 F : Hp) (ts : List (Addr × HO)) (i j : Nat) (a1 b1 : Addr) (k1 k2 : Key) (G A B : List D) (st : L2.St) (H : Hp) (r : En) : Prop :=
  ∃ F' H1, Ok c.K pa H1 F0 F' H st r ∧ Ex F F' ∧ (∀ x, H0 x = H1 x ∨ H0 x = none) ∧ (∀ p ∈ ts, H1 p.1 = some p.2) ∧ H1 (pa j) = some (.dK [(k1, .ref a1), (k2, .ref b1)]) ∧ F' (pa j) = none ∧
    (∃ ws, H1 (pa i) = some (.lst ws) ∧ RpAll c.K F' ws G ∧ F' (pa i) = none) ∧ (∃ ws, H1 a1 = some (.lst ws) ∧ RpAll c.K F' ws A ∧ F' a1 = none) ∧ (∃ ws, H1 b1 = some (.lst ws) ∧ RpAll c.K F' ws B ∧ F' b1 = none)
section
variable {X : Cx} {c : Cc} {pa : Nat → Addr} {H0 F0 F : Hp} {ts : List (Addr × HO)} {i j : Nat} {a1 b1 : Addr} {k1 k2 : Key} {G A B G' A' B' : List D}
omit [TabT] in
theorem base_upd {H1 : Hp} {b : Addr} {o : HO} (h : ∀ x, H0 x = H1 x ∨ H0 x = none) (hb : H0 b = none) : ∀ x, H0 x = upd H1 b o x ∨ H0 x = none := fun x => by
  by_cases e : x = b
  · subst e
    exact .inr hb
  · rw [upd_ne e]
    exact h x
end
section
variable {X : Cx} {c : Cc} {pa : Nat → Addr} {H0 F0 F : Hp} {ts : List (Addr × HO)} {i j : Nat} {a1 b1 : Addr} {k1 k2 : Key} {G A B : List D} {st : L2.St} {H : Hp} {r : En}
/-- the object at a slot, the lists within another's dict: all stand from now on -/
theorem S3.begin (k : Ok c.K pa H0 F0 F H st r) (hi : r[i]? = some (.io (.l G))) (hj : r[j]? = some (.io (.n (.d [(k1, .l A), (k2, .l B)])))) (hij : i ≠ j) :
    ∃ a1 b1, S3 c pa H0 F0 F [] i j a1 b1 k1 k2 G A B st H ((r.set i .pin).set j .pin) ∧ H0 (pa i) = none ∧ H0 (pa j) = none ∧ H0 a1 = none ∧ H0 b1 = none ∧ pa i ≠ a1 ∧ pa i ≠ b1 ∧ a1 ≠ b1 := by
  classical
  obtain ⟨vi, si, rfl, zi, n0i, ws1, h1, y1⟩ := k.sl i _ hi (fun z => nomatch z)
  obtain ⟨vj, sj, rfl, zj, n0j, us, ⟨ks, hd, hkeys, hvals⟩, hit, hun⟩ := k.sl j _ hj (fun z => nomatch z)
  have hl2 : us.length = 2 := hit.len
  obtain ⟨w1, g1, a1, ws2, rfl, h2, y2⟩ := hit.get (j := 0) (i := .l A) rfl
  obtain ⟨w2, g2, b1, ws3, rfl, h3, y3⟩ := hit.get (j := 1) (i := .l B) rfl
  have eks : ks = [(k1, .ref a1), (k2, .ref b1)] := by
    rw [hvals] at g1 g2 hl2
    match ks, hkeys, g1, g2, hl2 with
    | [(p1, q1), (p2, q2)], hkeys, g1, g2, _ =>
      simp at hkeys g1 g2
      obtain ⟨rfl, rfl⟩ := hkeys
      subst g1
      subst g2
      rfl
    | [], _, g1, _, _ => simp at g1
    | [_], _, _, g2, _ => simp at g2
    | _ :: _ :: _ :: _, _, _, _, hl => simp at hl
  subst eks
  have ia : Inn H (pa j) (.n (.d [(k1, .l A), (k2, .l B)])) a1 := ⟨0, us, A, by rw [hd, hvals]; rfl, g1, rfl⟩
  have ib : Inn H (pa j) (.n (.d [(k1, .l A), (k2, .l B)])) b1 := ⟨1, us, B, by rw [hd, hvals]; rfl, g2, rfl⟩
  obtain ⟨fa, n0a, fa3⟩ := k.inn j _ _ _ a1 hj rfl sj ia
  obtain ⟨fb, n0b, fb3⟩ := k.inn j _ _ _ b1 hj rfl sj ib
  have nia : pa i ≠ a1 := (fa3 i _ _ _ hi rfl si).1
  have nib : pa i ≠ b1 := (fb3 i _ _ _ hi rfl si).1
  have nab : a1 ≠ b1 := fun z => hun 0 1 a1 (by decide) ⟨us, A, by rw [hd, hvals]; rfl, g1, rfl⟩ ⟨us, B, by rw [hd, hvals]; rfl, by rw [z]; exact g2, rfl⟩
  have li : i < r.length := (List.getElem?_eq_some_iff.mp hi).1
  have lj : j < r.length := (List.getElem?_eq_some_iff.mp hj).1
  have view : ∀ (n : Nat) (s' : Sl), ((r.set i .pin).set j .pin)[n]? = some s' → (s' = .pin ∧ (n = i ∨ n = j)) ∨ (n ≠ i ∧ n ≠ j ∧ r[n]? = some s') := fun n s' e => by
    by_cases q : j = n
    · subst q
      rw [List.getElem?_set_self (by rw [List.length_set]; exact lj)] at e
      cases e
      exact .inl ⟨rfl, .inr rfl⟩
    · rw [List.getElem?_set_ne q] at e
      by_cases q2 : i = n
      · subst q2
        rw [List.getElem?_set_self li] at e
        cases e
        exact .inl ⟨rfl, .inl rfl⟩
      · rw [List.getElem?_set_ne q2] at e
        exact .inr ⟨fun z => q2 z.symm, fun z => q z.symm, e⟩
  have kp : Ok c.K pa H0 F0 F H st ((r.set i .pin).set j .pin) := k.less (by rw [List.length_set, List.length_set]) fun n s' e => by
    rcases view n s' e with ⟨rfl, rfl | rfl⟩ | ⟨_, _, e⟩
    · exact .inr (.inr ⟨rfl, si⟩)
    · exact .inr (.inr ⟨rfl, sj⟩)
    · exact .inl e
  have nobs : ∀ x, (x = pa i ∨ x = pa j ∨ x = a1 ∨ x = b1) → Nob H st ((r.set i .pin).set j .pin) x := fun x hx n s' c' a e1 e2 e3 => by
    rcases view n s' e1 with ⟨rfl, _⟩ | ⟨ni, nj, e⟩
    · cases e2
    · rcases hx with rfl | rfl | rfl | rfl
      · refine ⟨fun z => ?_, fun z => ((k.inn n s' c' a _ e e2 e3 z).2.2 i _ _ _ hi rfl si).1 rfl⟩
        subst z
        exact k.dis n i s' _ c' _ _ ni e hi e2 rfl e3 si
      · refine ⟨fun z => ?_, fun z => ((k.inn n s' c' a _ e e2 e3 z).2.2 j _ _ _ hj rfl sj).1 rfl⟩
        subst z
        exact k.dis n j s' _ c' _ _ nj e hj e2 rfl e3 sj
      · obtain ⟨z1, z2⟩ := fa3 n s' c' a e e2 e3
        exact ⟨z1, z2 nj⟩
      · obtain ⟨z1, z2⟩ := fb3 n s' c' a e e2 e3
        exact ⟨z1, z2 nj⟩
  have kS : Ok c.K pa (fun x => if (x = pa i ∨ x = pa j ∨ x = a1 ∨ x = b1) then H x else H0 x) F0 F H st ((r.set i .pin).set j .pin) := kp.pinS (fun x => x = pa i ∨ x = pa j ∨ x = a1 ∨ x = b1) (fun x hx => ⟨if_pos hx, by
    rcases hx with rfl | rfl | rfl | rfl
    · exact zi
    · exact zj
    · exact fa
    · exact fb, nobs x hx⟩) fun x hx => if_neg hx
  refine ⟨a1, b1, ⟨F, _, kS, Ex.refl F, fun x => ?_, fun p hp => (by cases hp), ?_, zj, ⟨ws1, ?_, y1, zi⟩, ⟨ws2, ?_, y2, fa⟩, ⟨ws3, ?_, y3, fb⟩⟩, n0i, n0j, n0a, n0b, nia, nib, nab⟩
  · by_cases hx : x = pa i ∨ x = pa j ∨ x = a1 ∨ x = b1
    · right
      rcases hx with rfl | rfl | rfl | rfl
      · exact n0i
      · exact n0j
      · exact n0a
      · exact n0b
    · exact .inl (if_neg hx).symm
  · exact (if_pos (.inr (.inl rfl))).trans hd
  · exact (if_pos (.inl rfl)).trans h1
  · exact (if_pos (.inr (.inr (.inl rfl)))).trans h2
  · exact (if_pos (.inr (.inr (.inr rfl)))).trans h3
theorem S3.add (hW : S3 c pa H0 F0 F ts i j a1 b1 k1 k2 G A B st H r) {t : Addr} {o : HO} (n : H t = none) : S3 c pa H0 F0 F ((t, o) :: ts) i j a1 b1 k1 k2 G A B st (upd H t o) r := by
  obtain ⟨F', H1, k, e, hb0, hts1, hd, fj, ⟨ws1, x1, y1, z1⟩, ⟨ws2, x2, y2, z2⟩, ⟨ws3, x3, y3, z3⟩⟩ := hW
  have n1 : H1 t = none := k.hH.nn n
  have n0 : H0 t = none := (hb0 t).elim (fun z => z.trans n1) id
  have ne : ∀ x u, H1 x = some u → x ≠ t := fun x u h z => by
    rw [z, n1] at h
    cases h
  refine ⟨F', _, k.inL n, e, base_upd hb0 n0, fun p hp => ?_, by rw [upd_ne (ne _ _ hd)]; exact hd, fj, ⟨ws1, by rw [upd_ne (ne _ _ x1)]; exact x1, y1, z1⟩, ⟨ws2, by rw [upd_ne (ne _ _ x2)]; exact x2, y2, z2⟩, ⟨ws3, by rw [upd_ne (ne _ _ x3)]; exact x3, y3, z3⟩⟩
  rcases List.mem_cons.mp hp with rfl | hp
  · exact upd_same
  · rw [upd_ne (ne _ _ (hts1 p hp))]
    exact hts1 p hp
end
end Pu
namespace Pu
open PySem PySem.Spec PyProof.Rows L2
/-! ### {"k": a list of one's own, "l": another} -/
end Pu
namespace Pu
open PySem PySem.Spec PyProof.Rows L2
variable [TabT]
theorem sp_start {K : PySem.W.Frag} {mg : Str → Option Value} {f : List Sl → Re RV} {ns : List Int} {H : Hp} {a : Addr} (hl : ∃ r, f [.v (.list (ns.map .int))] = .ok (.v (.bool true)) r) (hS : SqL K H a (ns.map V.int)) (tb : LamX.Tabs (TabT.T K) H) : spG K mg 1 f [.ref a] H (fun v _ => v = .bl true) fun _ _ _ => False := by
  obtain ⟨r, hr⟩ := hl
  refine ⟨rfl, fun _ => 0, H, H, _, argsV (vs := [.ref a]) (ds := [.list (ns.map .int)]) (.cons (.lst hS (dpa_ints ns)) .nil) (Ex.refl H) tb, argsOkV _, ?_⟩
  rw [show [PyData.list (ns.map PyData.int)].map Sl.v = [Sl.v (.list (ns.map .int))] from rfl, hr]
  intro F' H' v ok rv
  cases rv
  rfl
theorem no_cx {P : Program} {w : World} {H : Hp} {s s' : Shared} {e : Value} (h : L2.CX P w [] H s (fun _ _ _ => False) e s') : False := by
  obtain ⟨_, _, _, _, _, _, _, _, _, _, _, _, z⟩ := h
  exact z
/-- the law called from outside, with the tables of code objects -/
theorem lawG {P : Program} {w : World} {K : PySem.W.Frag} {mg mb : Str → Option Value} {k : Nat} {fa a : Addr} {cs : List (Addr × Addr)} {fd : FuncData} {x : Str} {sp : Sp} {s₁ : Shared} {vs : List Value} {ns : List Int}
    (KX : K.In s₁.heap) (hns : s₁.heap.Ns mainGlobals mg) (hb : s₁.heap.Ns builtinsNs mb) (hbb : ∀ x : Str, x ≠ "__name__" → mb x = bootBuiltins x) (hlim : s₁.heap.NoLimit) (hg : s₁.gens = #[])
    (hT : ∀ p ∈ cs, s₁.heap.get? p.2 = some { cls := .none, data := .fields #[] }) (nT : ∀ p ∈ cs, K.lookup p.2 = none) (C : ∀ p ∈ cs, PySem.W.CodeHd s₁.heap p.1 p.2)
    (hbm : ∃ (bm : Addr) (ob : Obj), mg "__builtins__" = some (.ref bm) ∧ bm ≠ builtinsNs ∧ s₁.heap.get? bm = some ob ∧ ob.cls = .type "module" ∧ ob.dict = some builtinsNs ∧ ob.data = .plain)
    (ha : s₁.heap.get? a = some { cls := .type "list", data := .seq vs.toArray }) (hi : IntsAre vs ns) (hl : ns.length ≤ sizeLine) (hr : RmC k callerA) (hsr : s₁.heap.NoSeer)
    (F : ∀ base : Heap, K.In base → base.Ns mainGlobals mg → base.NoSeer → (∀ p ∈ cs, LamX.TabB base mg p.1 p.2) → FnG P w K mg base k fa fd [x] sp) (hbind : ∀ (s : Shared) (u : Value), BindsTo s fd ⟨[u], []⟩ [(x, u)])
    (hsp : ∀ H : Hp, (∀ p ∈ cs, H p.2 = some (.tbl #[])) → SqL K H a (ns.map V.int) → sp [.ref a] H (fun v _ => v = .bl true) fun _ _ _ => False) :
    codeAny (model P w) callerA (.call (.ref fa) ⟨[.ref a], []⟩) (fun r s' => r = .ok (.ret (.bool true)) ∧ OldK s₁.heap s'.heap ∧ s'.os = s₁.os ∧ AllBare s'.gens) s₁ := by
  have rv := vals_ints hi
  have lenV := hi.length
  have isT : ∀ b : Addr, b ∈ cs.map (·.2) → s₁.heap.get? b = some { cls := .none, data := .fields #[] } := fun b hb => by
    obtain ⟨p, hp, e⟩ := List.mem_map.mp hb
    rw [← e]
    exact hT p hp
  have aT : a ∉ cs.map (·.2) := fun z => by
    have q := isT a z
    rw [ha] at q
    have z' : Data.seq vs.toArray _ = Data.fields #[] := congrArg Obj.data (Option.some.inj q)
    cases z'
  have memT : ∀ p ∈ cs, p.2 ∈ cs.map (·.2) := fun p hp => List.mem_map.mpr ⟨p, hp, rfl⟩
  -- from an abstract heap in which nothing but the script and the tables may be tracked
  have core : ∀ H : Hp, (∀ p ∈ cs, H p.2 = some (.tbl #[])) → (∀ b, H b = none ∨ b ∈ cs.map (·.2) ∨ ∃ o xs, H b = some (.frz o (.lst xs))) → SqL K H a (ns.map V.int) → HOk P w H s₁.heap → (∀ b, H b ≠ none → b = a ∨ b ∈ cs.map (·.2)) → (H a ≠ none → K.lookup a = none) →
      codeAny (model P w) callerA (.call (.ref fa) ⟨[.ref a], []⟩) (fun r s' => r = .ok (.ret (.bool true)) ∧ OldK s₁.heap s'.heap ∧ s'.os = s₁.os ∧ AllBare s'.gens) s₁ := by
    intro H hH hO hS hok hA hK
    have base_of : ∀ {b : Addr} {o : Obj}, s₁.heap.get? b = some o → H b = none → (hidT s₁.heap H).get? b = some o := fun e n => hidT_get e n
    have noD : ∀ {b : Addr} {o : Obj}, s₁.heap.get? b = some o → (∀ vs n, o.data ≠ .seq vs n) → o.data ≠ .fields #[] → H b = none := fun {b o} e h1 h2 => by
      cases q : H b with
      | none => rfl
      | some u =>
        rcases hA b (by rw [q]; simp) with e' | e'
        · rw [e', ha] at e
          cases e
          exact (h1 _ _ rfl).elim
        · rw [isT b e'] at e
          cases e
          exact (h2 rfl).elim
    have noA : ∀ {b : Addr} {o : Obj} {es : Array DictEntry} {ep : Nat}, s₁.heap.get? b = some o → o.data = .dict es ep → H b = none := fun {b o es ep} e d => by
      refine noD e (fun vs n z => ?_) fun z => ?_
      · rw [d] at z
        cases z
      · rw [d] at z
        cases z
    have nsK : ∀ {b : Addr} {m : Str → Option Value}, s₁.heap.Ns b m → (hidT s₁.heap H).Ns b m := fun {b m} ⟨o, es, ep, e, d, r⟩ => ⟨o, es, ep, base_of e (noA e d), d, r⟩
    have hKb : K.In (hidT s₁.heap H) := fun b o e => base_of (KX b o e) (by
      cases q : H b with
      | none => rfl
      | some u =>
        rcases hA b (by rw [q]; simp) with e' | e'
        · rw [e'] at e q
          rw [hK (by rw [q]; simp)] at e
          cases e
        · obtain ⟨p, hp, ep⟩ := List.mem_map.mp e'
          rw [← ep, nT p hp] at e
          cases e)
    have hM : L2.Mod K mg (hidT s₁.heap H) := ⟨hKb, nsK hns, ⟨mb, nsK hb, hbb⟩, let ⟨mc, h1, h2⟩ := hlim; ⟨mc, nsK h1, h2⟩⟩
    have hSR : (hidT s₁.heap H).NoSeer := ⟨(let ⟨mc, a, b⟩ := hsr.statics; ⟨mc, nsK a, b⟩), (let ⟨mc, a, b⟩ := hsr.mods; ⟨mc, nsK a, b⟩), (let ⟨mb, a, b⟩ := hsr.imp; ⟨mb, nsK a, b⟩), by
      obtain ⟨bm, ob, b1, b2, b3, b4, b5, b6⟩ := hbm
      refine ⟨mg, bm, ob, nsK hns, b1, base_of b3 (noD b3 (fun vs n z => ?_) fun z => ?_), b4, b5⟩
      · rw [b6] at z
        cases z
      · rw [b6] at z
        cases z⟩
    have TB : ∀ p ∈ cs, LamX.TabB (hidT s₁.heap H) mg p.1 p.2 := fun p hp => by
      have hTp := hT p hp
      refine ⟨?_, ?_, fun z => ?_⟩
      · obtain ⟨o, us, file, tf, flags, tg, inF, text, tt, e1, r1, r2, r3, r4, r5, r6, r7, r8, hne⟩ := C p hp
        refine ⟨o, us, file, tf, flags, tg, inF, text, tt, base_of e1 (noD e1 (fun vs n z => ?_) fun z => ?_), r1, r2, r3, r4, r5, r6, r7, r8, hne⟩
        · rw [r2] at z
          cases z
        · rw [r2] at z
          cases z
          simp at r3
      · obtain ⟨bm, ob, b1, b2, b3, b4, b5, b6⟩ := hbm
        have nG : bm ≠ mainGlobals := fun q => by
          obtain ⟨o, es, ep, e, hd, _⟩ := hns
          rw [q, e] at b3
          cases b3
          rw [hd] at b6
          cases b6
        have nP : bm ≠ p.2 := fun q => by
          rw [q, hTp] at b3
          cases b3
          cases b6
        refine ⟨bm, ob, b1, b2, nG, nP, base_of b3 (noD b3 (fun vs n z => ?_) fun z => ?_), b4, b5, b6⟩
        · rw [b6] at z
          cases z
        · rw [b6] at z
          cases z
      · obtain ⟨o, es, ep, e, hd, _⟩ := hns
        rw [z, hTp] at e
        cases e
        cases hd
    have e0 : Env0 P w K mg (hidT s₁.heap H) callerA [] s₁ H := ⟨rfl, hM, fun b o e => of_hidT e, Nat.le_of_eq (hidT_size _ _), trivial, fun b hb => absurd (show b ∈ ([] : List Addr) from hb) (by simp), hok, .of_eq hg⟩
    refine codeAny_mono ((F _ hKb (nsK hns) hSR TB).run callerA [] s₁ H ⟨[.ref a], []⟩ [.ref a] [.ref a] _ _ hr e0 (hbind s₁ (.ref a)) (.cons rfl .nil) (hsp H hH hS)) fun r s' h => ?_
    cases r with
    | error e => exact (no_cx h).elim
    | ok fl =>
      cases fl with
      | next => exact False.elim h
      | brk => exact False.elim h
      | cont => exact False.elim h
      | ret u =>
        obtain ⟨v, H', os, bare, un, hok', r', q⟩ := h
        have q' : v = .bl true := q
        subst q'
        obtain rfl : u = Value.bool true := r'
        have key : ∀ b o, b ∉ cs.map (·.2) → s₁.heap.get? b = some o → s'.heap.get? b = some o := fun b o nb e => by
          cases q : H b with
          | none => exact un.keep b o e q (by intro z; exact absurd (show b ∈ ([] : List Addr) from z) (by simp)) (by simp)
          | some u =>
            rcases hO b with z | z | ⟨ob, xs, z⟩
            · rw [q] at z; cases z
            · exact absurd z nb
            · have z2 := un.frzs b ob _ z
              obtain ⟨e1, _⟩ := hok b _ z
              obtain ⟨e2, _⟩ := hok' b _ z2
              rw [e] at e1; cases e1
              exact e2
        have grown : ∀ p ∈ cs, ∃ more : Array Value, s'.heap.get? p.2 = some { cls := .none, data := .fields more } := fun p hp => by
          obtain ⟨more, z⟩ := un.tbls p.2 #[] (hH p hp)
          exact ⟨_, hok' p.2 _ z⟩
        refine ⟨rfl, ⟨fun b o e => ?_, fun b o e => ?_⟩, os, bare⟩
        · by_cases hb : b ∈ cs.map (·.2)
          · obtain ⟨p, hp, ep⟩ := List.mem_map.mp hb
            obtain ⟨more, hm⟩ := grown p hp
            rw [← ep] at e ⊢
            rw [hT p hp] at e
            cases e
            exact .inr (.inl ⟨((C p hp).tab (hT p hp)).isCodeTable, rfl, #[], more, rfl, by rw [Array.empty_append]; exact hm⟩)
          · exact .inl (key b o hb e)
        · by_cases hb : b ∈ cs.map (·.2)
          · obtain ⟨p, hp, ep⟩ := List.mem_map.mp hb
            obtain ⟨more, hm⟩ := grown p hp
            rw [← ep]
            exact ⟨_, hm⟩
          · exact ⟨o, key b o hb e⟩
  cases hk : K.lookup a with
  | some o =>
    have e := KX a o hk
    rw [ha] at e
    cases e
    refine core (fun b => if b ∈ cs.map (·.2) then some (.tbl #[]) else none) (fun p hp => if_pos (memT p hp)) (fun b => ?_) (.inr ⟨_, vs.toArray, _, hk, rfl, rfl, rfl, by rw [List.size_toArray, lenV]; exact hl, by simpa using rv⟩) (fun b u z => ?_) (fun b z => ?_) fun z => absurd (show (if a ∈ cs.map (·.2) then some (HO.tbl #[]) else none) = none from if_neg aT) z
    · by_cases hb : b ∈ cs.map (·.2)
      · exact .inr (.inl hb)
      · exact .inl (if_neg hb)
    · by_cases hb : b ∈ cs.map (·.2)
      · have z' := (if_pos hb).symm.trans z
        cases z'
        exact isT b hb
      · have z' := (if_neg hb).symm.trans z
        cases z'
    · by_cases hb : b ∈ cs.map (·.2)
      · exact .inr hb
      · exact absurd (if_neg hb) z
  | none =>
    refine core (fun b => if b = a then some (.frz { cls := .type "list", data := .seq vs.toArray } (.lst (ns.map V.int))) else if b ∈ cs.map (·.2) then some (.tbl #[]) else none) (fun p hp => (if_neg (show ¬ p.2 = a from fun z => aT (by rw [← z]; exact memT p hp))).trans (if_pos (memT p hp))) (fun b => ?_)
      (.inl (.inr ⟨{ cls := .type "list", data := .seq vs.toArray }, if_pos rfl⟩)) (fun b u z => ?_) (fun b z => ?_) fun _ => hk
    · by_cases hb : b = a
      · exact .inr (.inr ⟨_, _, if_pos hb⟩)
      · by_cases hb2 : b ∈ cs.map (·.2)
        · exact .inr (.inl hb2)
        · exact .inl ((if_neg hb).trans (if_neg hb2))
    · by_cases hb : b = a
      · have z' := (if_pos hb).symm.trans z
        cases z'
        rw [hb]
        exact ⟨ha, by rw [List.length_map]; exact hl, vs, _, rv, ha⟩
      · have z1 := (if_neg hb).symm.trans z
        by_cases hb2 : b ∈ cs.map (·.2)
        · have z' := (if_pos hb2).symm.trans z1
          cases z'
          exact isT b hb2
        · have z' := (if_neg hb2).symm.trans z1
          cases z'
    · by_cases hb : b = a
      · exact .inl hb
      · by_cases hb2 : b ∈ cs.map (·.2)
        · exact .inr hb2
        · exact absurd ((if_neg hb).trans (if_neg hb2)) z
theorem walk_ofP {l : PySem.W.OpenLaw} {n k : Nat} {q : Program} {loose : List Str} {XP : (Str → Option Value) → Heap → Prop} {YP : World → Heap → Prop} {d : DefRec} {x : Str} (hn : l.most = some n) (hn2 : n ≤ sizeLine) (hdf : d.params.defaults = []) (hr : RmC k callerA) (hi : PyProof.Rows.importsNone q = true)
    (F : ∀ (w : World) (mg : Str → Option Value) (fa : Addr) (h : Heap), YP w h → h.Ns mainGlobals mg → mg d.name = some (.ref fa) → ∃ (K : PySem.W.Frag) (fd : FuncData) (cs : List (Addr × Addr)) (sp : Sp), K.In h ∧ (∀ p ∈ cs, h.get? p.2 = some { cls := .none, data := .fields #[] }) ∧ (∀ p ∈ cs, K.lookup p.2 = none) ∧ (∀ p ∈ cs, PySem.W.CodeHd h p.1 p.2) ∧ (∀ (s : Shared) (u : Value), BindsTo s fd ⟨[u], []⟩ [(x, u)]) ∧
      (∀ (H : Hp) (a : Addr) (ns : List Int), ns.length ≤ n → (∀ z ∈ ns, Builtin.Int.intBits z ≤ 1048576) → (∀ p ∈ cs, H p.2 = some (.tbl #[])) → SqL K H a (ns.map V.int) → sp [.ref a] H (fun v _ => v = .bl true) fun _ _ _ => False) ∧ ∀ base : Heap, K.In base → base.Ns mainGlobals mg → base.NoSeer → (∀ p ∈ cs, LamX.TabB base mg p.1 p.2) → FnG l.prog w K mg base k fa fd [x] sp) :
    PySem.W.WalkO q loose XP YP l.row.toRowW d [] (fun f vs => PySem.call f vs) :=
  Att.attach_callB hn hdf fun w t0 t1 mg mb fa o pm cd doc a us ns G Y ho hd hcd hmg hobj hints hlen hbits hg => by
    obtain ⟨K, fd, cs, sp, KX, hT, nT, C, hb, hsp, hF⟩ := F w mg fa _ Y G.T.g hmg
    exact lawG KX G.T.g G.T.b G.T.builtins G.T.nolimit hg hT nT C G.T.bmain hobj hints (Nat.le_trans hlen hn2) hr (G.T.seer hi) hF hb fun H hH hS => hsp H a ns hlen hbits hH hS
end Pu
namespace Pu
open PySem L2
variable [TabT]
theorem ite_some {α : Type} (p : Prop) [Decidable p] (a b : α) : ((if p then some a else none) = some b) = (p ∧ a = b) := by
  by_cases h : p
  · rw [if_pos h]
    simp [h]
  · rw [if_neg h]
    simp [h]
/-! ### what a mirror does, from the left -/
variable {α β : Type} {X : Exn → En → Prop} {k : α → En → Prop}
@[simp] theorem qo_ok (a : α) (r : En) : Po X (.ok a r) k = k a r := rfl
@[simp] theorem qo_ex (e : Exn) (r : En) : Po X (.ex e r) k = X e r := rfl
@[simp] theorem qo_no : Po X (.no : Re α) k = False := rfl
@[simp] theorem qo_bind (x : Re β) (f : β → M α) : Po X (x.bind f) k = Po X x fun a r => Po X (f a r) k := by cases x <;> rfl
theorem qo_opt (o : Option α) (r : En) : Po X (M.opt o r) k = ∃ a, o = some a ∧ k a r := by
  cases o with
  | none => simp [M.opt]
  | some a => simp [M.opt]
theorem qo_mono {x : Re α} {k' : α → En → Prop} (h : Po X x k') (i : ∀ a r, k' a r → k a r) : Po X x k := h.mono (fun _ _ z => z) i
theorem qo_true {f : Re RV} (h : Po (fun _ _ => False) f fun rv _ => rv = .v (.bool true)) : ∃ r, f = .ok (.v (.bool true)) r := by
  cases f with
  | ok a r => exact ⟨r, by rw [show a = .v (.bool true) from h]⟩
  | ex e r => exact h.elim
  | no => exact h.elim
@[simp] theorem getS_ap (i : Nat) (r : En) : getS i r = (match r[i]? with
  | some (.v d) => .ok d r
  | _ => .no) := rfl
@[simp] theorem bin_ap (g : D → D → Option D) (a b : M D) (r : En) : bin g a b r = (a r).bind fun x r => (b r).bind fun y r => M.opt (g x y) r := rfl
@[simp] theorem una_ap (g : D → Option D) (a : M D) (r : En) : una g a r = (a r).bind fun x r => M.opt (g x) r := rfl
@[simp] theorem nry_ap (g : List D → Option D) (a : M (List D)) (r : En) : nry g a r = (a r).bind fun x r => M.opt (g x) r := rfl
@[simp] theorem unaO_ap (g : D → Option (List D)) (a : M D) (r : En) : unaO g a r = (a r).bind fun x r => M.opt ((g x).map fun z => .o (.l z)) r := rfl
@[simp] theorem nryO_ap (g : List D → Option (List D)) (a : M (List D)) (r : En) : nryO g a r = (a r).bind fun x r => M.opt ((g x).map fun z => .o (.l z)) r := rfl
@[simp] theorem aNil_ap (r : En) : aNil r = .ok [] r := rfl
@[simp] theorem aCons_ap (a : M D) (b : M (List D)) (r : En) : aCons a b r = (a r).bind fun x r => (b r).bind fun y r => .ok (x :: y) r := rfl
@[simp] theorem frzM_ap (m : M RV) (r : En) : frzM m r = (m r).bind fun rv r => M.opt rv.data r := rfl
@[simp] theorem data_v (d : D) : RV.data (.v d) = some d := rfl
@[simp] theorem data_l (ds : List D) : RV.data (.o (.l ds)) = some (.list ds) := rfl
@[simp] theorem eTup_ap (m : M (List D)) (r : En) : eTup m r = (m r).bind fun ds r => M.opt (szC ds.length (.tuple ds)) r := rfl
@[simp] theorem oLst_ap (m : M (List D)) (r : En) : oLst m r = (m r).bind fun ds r => M.opt (szC ds.length (.o (.l ds))) r := rfl
theorem szC_iff (n : Nat) (a b : α) : (szC n a = some b) = (n ≤ 16777216 ∧ a = b) := by
  unfold szC
  exact ite_some _ _ _
@[simp] theorem tBool_ap (m : M D) (r : En) : tBool m r = (m r).bind fun d r => M.opt (match d with
  | .bool b => some b
  | _ => none) r := rfl
@[simp] theorem tTru_ap (m : M D) (r : En) : tTru m r = (m r).bind fun d r => M.opt (tru d) r := rfl
@[simp] theorem tNotM_ap (m : M Bool) (r : En) : tNotM m r = (m r).bind fun b r => .ok (!b) r := rfl
@[simp] theorem tAndM_ap (m n : M Bool) (r : En) : tAndM m n r = (m r).bind fun b r => if b = true then n r else .ok false r := by
  show (m r).bind (fun b => if b = true then n else M.ret false) = _
  congr 1
  funext b r
  cases b <;> rfl
@[simp] theorem tOrM_ap (m n : M Bool) (r : En) : tOrM m n r = (m r).bind fun b r => if b = true then .ok true r else n r := by
  show (m r).bind (fun b => if b = true then M.ret true else n) = _
  congr 1
  funext b r
  cases b <;> rfl
@[simp] theorem eNot_ap (m : M D) (r : En) : eNot m r = (tBool m r).bind fun b r => .ok (.bool (!b)) r := rfl
@[simp] theorem eNotT_ap (m : M D) (r : En) : eNotT m r = (tTru m r).bind fun b r => .ok (.bool (!b)) r := rfl
@[simp] theorem eAnd_ap (m n : M D) (r : En) : eAnd m n r = (tBool m r).bind fun b r => if b = true then n r else .ok (.bool false) r := by
  show (tBool m r).bind (fun b => if b = true then n else M.ret (.bool false)) = _
  congr 1
  funext b r
  cases b <;> rfl
@[simp] theorem eOr_ap (m n : M D) (r : En) : eOr m n r = (tBool m r).bind fun b r => if b = true then .ok (.bool true) r else n r := by
  show (tBool m r).bind (fun b => if b = true then M.ret (.bool true) else n) = _
  congr 1
  funext b r
  cases b <;> rfl
@[simp] theorem eIf_ap (t : M Bool) (m n : M D) (r : En) : eIf t m n r = (t r).bind fun b r => if b = true then m r else n r := by
  show (t r).bind (fun b => if b = true then m else n) = _
  congr 1
  funext b r
  cases b <;> rfl
@[simp] theorem eChain_ap (g g' : D → D → Option D) (a b d : M D) (r : En) : eChain g g' a b d r = (a r).bind fun x r => (b r).bind fun y r => (M.opt (g x y) r).bind fun z r => (match z with
  | .bool true => (d r).bind fun z r => M.opt (g' y z) r
  | .bool false => .ok (.bool false) r
  | _ => .no) := by
  show (a r).bind (fun x => b.bind fun y => (M.opt (g x y)).bind fun z => (match z with
  | .bool true => d.bind fun z => M.opt (g' y z)
  | .bool false => M.ret (.bool false)
  | _ => M.no)) = _
  congr 1
  funext x r
  show (b r).bind _ = _
  congr 1
  funext y r
  show (M.opt (g x y) r).bind _ = _
  congr 1
  funext z r
  cases z with
  | bool b => cases b <;> rfl
  | _ => rfl
@[simp] theorem setN_ap (i : Nat) (s : Sl) (r : En) : setN i s r = (match r[i]? with
  | some q => if q.isIo = true then none else some (r.set i s)
  | none => none) := by
  unfold setN
  cases r[i]? with
  | none => rfl
  | some q => cases q <;> rfl
@[simp] theorem io_unk : Sl.isIo .unk = false := rfl
@[simp] theorem io_v (d : D) : Sl.isIo (.v d) = false := rfl
@[simp] theorem io_o (c : Ct) : Sl.isIo (.o c) = false := rfl
@[simp] theorem io_io (c : Ct) : Sl.isIo (.io c) = true := rfl
@[simp] theorem setM_ap (i : Nat) (s : Sl) (r : En) : setM i s r = (match setN i s r with
  | some r' => .ok .nx r'
  | none => .no) := rfl
@[simp] theorem slOf_v (d : D) : slOf (.v d) = .v d := rfl
@[simp] theorem slOf_o (d : Ct) : slOf (.o d) = .o d := rfl
@[simp] theorem sSet_ap (i : Nat) (m : M D) (r : En) : sSet i m r = (m r).bind fun d r => setM i (.v d) r := rfl
@[simp] theorem sSetO_ap (i : Nat) (m : M RV) (r : En) : sSetO i m r = (m r).bind fun d r => setM i (slOf d) r := rfl
@[simp] theorem sNil_ap (r : En) : sNil r = .ok .nx r := rfl
theorem sSeq_ap (m n : M Fl) (r : En) : sSeq m n r = (m r).bind fun fl r => (match fl with
  | .nx => n r
  | f => .ok f r) := by
  show (m r).bind (fun fl => (match fl with
  | .nx => n
  | f => M.ret f)) = _
  congr 1
  funext fl r
  cases fl <;> rfl
theorem qo_seq {kk : Fl → En → Prop} (m n : M Fl) (r : En) : Po X (sSeq m n r) kk = Po X (m r) fun fl r => (match fl with
  | .nx => Po X (n r) kk
  | f => kk f r) := by
  rw [sSeq_ap, qo_bind]
  congr 1
  funext fl r
  cases fl <;> rfl
@[simp] theorem sIf_ap (t : M Bool) (a b : M Fl) (r : En) : sIf t a b r = (t r).bind fun x r => if x = true then a r else b r := by
  show (t r).bind (fun x => if x = true then a else b) = _
  congr 1
  funext x r
  cases x <;> rfl
@[simp] theorem qo_ite (p : Prop) [Decidable p] (x y : Re α) : Po X (if p then x else y) k = if p then Po X x k else Po X y k := by split <;> rfl
@[simp] theorem sRet_ap (m : M RV) (r : En) : sRet m r = (m r).bind fun d r => .ok (.rt d) r := rfl
@[simp] theorem sDrop_ap (m : M D) (r : En) : sDrop m r = (m r).bind fun _ r => .ok .nx r := rfl
@[simp] theorem sDropO_ap (m : M RV) (r : En) : sDropO m r = (m r).bind fun _ r => .ok .nx r := rfl
@[simp] theorem frzE_ap (i : Nat) (r : En) : frzE i r = (match r[i]? with
  | some (.o (.l ds)) => r.set i (.v (.list ds))
  | some (.o (.n t)) => (match t.data with
    | some d => r.set i (.v d)
    | none => r)
  | _ => r) := rfl
@[simp] theorem frz_ap (i : Nat) (m : M α) (r : En) : frz i m r = m (frzE i r) := rfl
@[simp] theorem takeS_ap (i : Nat) (r : En) : takeS i r = (match r[i]? with
  | some (.v d) => .ok (.v d) r
  | some (.o ct) => .ok (.o ct) (r.set i .unk)
  | _ => .no) := rfl
@[simp] theorem gN_ap (i : Nat) (d : D) (r : En) : gN i d r = setN i (.v d) r := rfl
@[simp] theorem gT_ap (t : Tgs) (ds : List D) (r : En) : gT t (.tuple ds) r = t ds r := rfl
@[simp] theorem gT_l (t : Tgs) (ds : List D) (r : En) : gT t (.list ds) r = t ds r := rfl
@[simp] theorem gNl_ap (r : En) : gNl [] r = some r := rfl
@[simp] theorem gCn_ap (t : Tg) (ts : Tgs) (d : D) (ds : List D) (r : En) : gCn t ts (d :: ds) r = (t d r).bind fun r' => ts ds r' := rfl
@[simp] theorem sAsg_ap (t : Tg) (m : M D) (r : En) : sAsg t m r = (m r).bind fun d r => (match t d r with
  | some r' => .ok .nx r'
  | none => .no) := rfl
@[simp] theorem sPar_ap (i j : Nat) (m : M (List D)) (r : En) : sPar i j m r = (m r).bind fun ds r => (match ds with
  | [a, b] => (match (setN i (.v a) r).bind (setN j (.v b)) with
    | some r' => .ok .nx r'
    | none => .no)
  | _ => .no) := by
  unfold sPar
  show (m r).bind _ = _
  congr 1
  funext ds r
  rcases ds with _ | ⟨a, _ | ⟨b, _ | ⟨c, ds⟩⟩⟩ <;> rfl
@[simp] theorem iSeq_ap (m : M D) (r : En) : iSeq m r = (m r).bind fun d r => M.opt (seqOf d) r := rfl
@[simp] theorem seqOf_l (ds : List D) : seqOf (.list ds) = some ds := rfl
@[simp] theorem seqOf_t (ds : List D) : seqOf (.tuple ds) = some ds := rfl
@[simp] theorem iBy_ap (g : List D → Option (List D)) (m : M (List D)) (r : En) : iBy g m r = (m r).bind fun ds r => M.opt (g ds) r := rfl
theorem rng1_iff (j : Int) (xs : List D) : (rng1 [.int j] = some xs) = ((-(2 ^ 62) ≤ j ∧ j < 2 ^ 62) ∧ rngD 0 j.toNat = xs) := by
  show (cI (-(2 ^ 62) ≤ j ∧ j < 2 ^ 62) (some (rngD 0 j.toNat)) none = some xs) = _
  rw [cI_eq]
  exact ite_some _ _ _
theorem rng2_iff (i j : Int) (xs : List D) : (rng2 [.int i, .int j] = some xs) = (((-(2 ^ 62) ≤ i ∧ i < 2 ^ 62) ∧ (-(2 ^ 62) ≤ j ∧ j < 2 ^ 62)) ∧ rngD i (j - i).toNat = xs) := by
  show (cI ((-(2 ^ 62) ≤ i ∧ i < 2 ^ 62) ∧ (-(2 ^ 62) ≤ j ∧ j < 2 ^ 62)) (some (rngD i (j - i).toNat)) none = some xs) = _
  rw [cI_eq]
  exact ite_some _ _ _
theorem enF_zip {γ : Type} (g : γ → D) : ∀ (k : Nat) (xs : List γ), enF k (xs.map g) = (xs.zipIdx k).map fun p => .tuple [.int (p.2 : Nat), g p.1]
  | _, [] => rfl
  | k, x :: xs => by
    rw [List.map_cons, List.zipIdx_cons, List.map_cons, ← enF_zip g (k + 1) xs]
    rfl
@[simp] theorem enOf_l {γ : Type} (g : γ → D) (xs : List γ) : enOf [.list (xs.map g)] = some ((xs.zipIdx 0).map fun p => .tuple [.int (p.2 : Nat), g p.1]) := by
  rw [← enF_zip]
  rfl
@[simp] theorem enOf_t {γ : Type} (g : γ → D) (xs : List γ) : enOf [.tuple (xs.map g)] = some ((xs.zipIdx 0).map fun p => .tuple [.int (p.2 : Nat), g p.1]) := by
  rw [← enF_zip]
  rfl
theorem rng_map (lo : Int) (n : Nat) : rngD lo n = (List.range n).map fun k : Nat => PyData.int (lo + (k : Int)) := rfl
@[simp] theorem pNone_ap (r : En) : pNone r = .ok none r := rfl
@[simp] theorem pSome_ap (m : M D) (r : En) : pSome m r = (m r).bind fun d r => M.opt (match d with
  | .int i => some (some i)
  | _ => none) r := rfl
@[simp] theorem eSl_ap (m : M D) (l u : M (Option Int)) (r : En) : eSl m l u r = (m r).bind fun d r => (l r).bind fun a r => (u r).bind fun b r => M.opt (slD d a b) r := rfl
@[simp] theorem slD_l (ds : List D) (a b : Option Int) : slD (.list ds) a b = some (.list (cutL ds a b)) := rfl
@[simp] theorem slD_t (ds : List D) (a b : Option Int) : slD (.tuple ds) a b = some (.tuple (cutL ds a b)) := rfl
@[simp] theorem revD_l (ds : List D) : revD (.list ds) = some (.list ds.reverse) := rfl
@[simp] theorem revD_t (ds : List D) : revD (.tuple ds) = some (.tuple ds.reverse) := rfl
@[simp] theorem sAppend_ap (i : Nat) (m : M D) (r : En) : sAppend i m r = (match getC i r with
  | some (.l _) => (m r).bind fun d r => (match getC i r with
    | some (.l ds) => if ds.length < 16777216 then .ok .nx (putC i (.l (ds ++ [d])) r) else .no
    | _ => .no)
  | _ => .no) := rfl
@[simp] theorem sExtend_ap (i : Nat) (m : M RV) (r : En) : sExtend i m r = (match getC i r with
  | some (.l _) => (m r).bind fun rv r => (match rv, getC i r with
    | .o (.l es), some (.l ds) => if ds.length + es.length ≤ 16777216 then .ok .nx (putC i (.l (ds ++ es)) r) else .no
    | _, _ => .no)
  | _ => .no) := rfl
@[simp] theorem getC_ap (i : Nat) (r : En) : getC i r = (r[i]?).bind Sl.own := rfl
@[simp] theorem putC_ap (i : Nat) (ct : Ct) (r : En) : putC i ct r = (match r[i]? with
  | some s => r.set i (s.put ct)
  | none => r) := rfl
@[simp] theorem own_o (c : Ct) : Sl.own (.o c) = some c := rfl
@[simp] theorem own_io (c : Ct) : Sl.own (.io c) = some c := rfl
@[simp] theorem own_v (d : D) : Sl.own (.v d) = none := rfl
@[simp] theorem own_unk : Sl.own .unk = none := rfl
@[simp] theorem put_o (c c' : Ct) : Sl.put c (.o c') = .o c := rfl
@[simp] theorem put_io (c c' : Ct) : Sl.put c (.io c') = .io c := rfl
@[simp] theorem eIxS_ap (i : Nat) (mk : M D) (r : En) : eIxS i mk r = (match getC i r with
  | some (.l _) => (mk r).bind fun k r => (match getC i r with
    | some (.l ds) => M.opt (ixL ds k) r
    | _ => .no)
  | some (.d _) => (mk r).bind fun k r => (match getC i r with
    | some (.d kvs) => M.opt ((keyD k).bind (vK kvs)) r
    | _ => .no)
  | some (.t _) => .no
  | some (.n _) => .no
  | none => bin ixD (getS i) mk r) := rfl
@[simp] theorem sPut_ap (i : Nat) (mk m : M D) (r : En) : sPut' i mk m r = (m r).bind fun d r => (match getC i r with
  | none => .no
  | some _ => (mk r).bind fun k r => (match getC i r with
    | some (.l ds) => (match k with
      | .int n => (match ixN ds.length n with
        | some j => .ok .nx (putC i (.l (ds.set j d)) r)
        | none => .no)
      | _ => .no)
    | some (.d kvs) => (match keyD k with
      | some y => if kvs.length < 16777216 then .ok .nx (putC i (.d (pK kvs y d)) r) else .no
      | none => .no)
    | some (.t kvs) => (match tkeyD k with
      | some y => if kvs.length < 16777216 then .ok .nx (putC i (.t (pK kvs y d)) r) else .no
      | none => .no)
    | some (.n _) => .no
    | none => .no)) := rfl
@[simp] theorem ixL_ap (ds : List D) (n : Int) : ixL ds (.int n) = atI ds n := rfl
@[simp] theorem ixD_l (ds : List D) (k : D) : ixD (.list ds) k = ixL ds k := rfl
@[simp] theorem ixD_t (ds : List D) (k : D) : ixD (.tuple ds) k = ixL ds k := rfl
@[simp] theorem lenD_l (ds : List D) : lenD (.list ds) = some (.int (ds.length : Nat)) := rfl
@[simp] theorem lenD_t (ds : List D) : lenD (.tuple ds) = some (.int (ds.length : Nat)) := rfl
@[simp] theorem one_ap (g : D → Option D) (d : D) : one g [d] = g d := rfl
@[simp] theorem two_ap (g : D → D → Option D) (d e : D) : two g [d, e] = g d e := rfl
@[simp] theorem eLenS_ap (i : Nat) (r : En) : eLenS i r = (match getC i r with
  | some (.l ds) => .ok (.int (ds.length : Nat)) r
  | some (.d kvs) => .ok (.int (kvs.length : Nat)) r
  | some (.t _) => .no
  | some (.n _) => .no
  | none => nry (one lenD) (aCons (getS i) aNil) r) := rfl
@[simp] theorem addD_i (i j : Int) : addD (.int i) (.int j) = some (.int (i + j)) := rfl
@[simp] theorem addD_l (xs ys : List D) : addD (.list xs) (.list ys) = szC (xs.length + ys.length) (.list (xs ++ ys)) := rfl
@[simp] theorem addD_t (xs ys : List D) : addD (.tuple xs) (.tuple ys) = szC (xs.length + ys.length) (.tuple (xs ++ ys)) := rfl
@[simp] theorem subD_i (i j : Int) : subD (.int i) (.int j) = some (.int (i - j)) := rfl
theorem mulD_iff (i j : Int) (d : D) : (mulD (.int i) (.int j) = some d) = (mulOk i j ∧ .int (i * j) = d) := by
  show (cI (mulOk i j) (some (PyData.int (i * j))) none = some d) = _
  rw [cI_eq]
  exact ite_some _ _ _
theorem fdivD_iff (i j : Int) (d : D) : (fdivD (.int i) (.int j) = some d) = ((j ≠ 0 ∧ j.natAbs.log2 < 9000) ∧ .int (i.fdiv j) = d) := by
  show (cI (j ≠ 0 ∧ j.natAbs.log2 < 9000) (some (PyData.int (i.fdiv j))) none = some d) = _
  rw [cI_eq]
  exact ite_some _ _ _
theorem modD_iff (i j : Int) (d : D) : (modD (.int i) (.int j) = some d) = (j ≠ 0 ∧ .int (i.fmod j) = d) := by
  show (cI (j ≠ 0) (some (PyData.int (i.fmod j))) none = some d) = _
  rw [cI_eq]
  exact ite_some _ _ _
theorem powD_iff (i j : Int) (d : D) : (powD (.int i) (.int j) = some d) = ((0 ≤ j ∧ j ≤ 1000000 ∧ i.natAbs < 2 ^ 64) ∧ .int (i ^ j.toNat) = d) := by
  show (cI (0 ≤ j ∧ j ≤ 1000000 ∧ i.natAbs < 2 ^ 64) (some (PyData.int (i ^ j.toNat))) none = some d) = _
  rw [cI_eq]
  exact ite_some _ _ _
@[simp] theorem negD_i (i : Int) : negD (.int i) = some (.int (-i)) := rfl
@[simp] theorem ltD_i (i j : Int) : ltD (.int i) (.int j) = some (.bool (decide (i < j))) := congrArg (fun b => some (PyData.bool b)) (cd_eq _)
@[simp] theorem leD_i (i j : Int) : leD (.int i) (.int j) = some (.bool (decide (i ≤ j))) := congrArg (fun b => some (PyData.bool b)) (cd_eq _)
@[simp] theorem gtD_i (i j : Int) : gtD (.int i) (.int j) = some (.bool (decide (j < i))) := congrArg (fun b => some (PyData.bool b)) (cd_eq _)
@[simp] theorem geD_i (i j : Int) : geD (.int i) (.int j) = some (.bool (decide (j ≤ i))) := congrArg (fun b => some (PyData.bool b)) (cd_eq _)
@[simp] theorem eqD_i (i j : Int) : eqD (.int i) (.int j) = some (.bool (decide (i = j))) := by
  show some (PyData.bool (i == j)) = _
  congr 2
@[simp] theorem neD_i (i j : Int) : neD (.int i) (.int j) = some (.bool (!decide (i = j))) := by
  show some (PyData.bool (!(i == j))) = _
  congr 2
@[simp] theorem eqD_s (i j : Str) : eqD (.str i) (.str j) = some (.bool (decide (i = j))) := rfl
@[simp] theorem neD_s (i j : Str) : neD (.str i) (.str j) = some (.bool (!decide (i = j))) := rfl
theorem eqD_ll {xs ys : List D} (h1 : SeqAt.shaped (.list xs) = true) (h2 : SeqAt.shaped (.list ys) = true) : eqD (.list xs) (.list ys) = some (.bool (PyData.eqvAll xs ys)) := if_pos ⟨h1, h2⟩
theorem neD_ll {xs ys : List D} (h1 : SeqAt.shaped (.list xs) = true) (h2 : SeqAt.shaped (.list ys) = true) : neD (.list xs) (.list ys) = some (.bool (!PyData.eqvAll xs ys)) := if_pos ⟨h1, h2⟩
theorem eqD_tt {xs ys : List D} (h1 : SeqAt.shaped (.tuple xs) = true) (h2 : SeqAt.shaped (.tuple ys) = true) : eqD (.tuple xs) (.tuple ys) = some (.bool (PyData.eqvAll xs ys)) := if_pos ⟨h1, h2⟩
theorem neD_tt {xs ys : List D} (h1 : SeqAt.shaped (.tuple xs) = true) (h2 : SeqAt.shaped (.tuple ys) = true) : neD (.tuple xs) (.tuple ys) = some (.bool (!PyData.eqvAll xs ys)) := if_pos ⟨h1, h2⟩
theorem eqD0_l (xs : List D) (e : D) (h : SeqAt.shaped (.list xs) = true ∧ SeqAt.shaped e = true) : eqD0 (.list xs) e = some (.bool (PyData.eqv (.list xs) e)) := if_pos h
/-! plain data: whole numbers, yes and no, None, rows of such -/
mutual
def pln : D → Bool
  | .none => true
  | .bool _ => true
  | .int i => decide (i.natAbs < 2 ^ 1900)
  | .str x => (PyData.str x).showable && ((PyData.str x).canLay0 && (PyData.str x).leavesShort 1901)
  | .list xs => plnAll xs
  | .tuple xs => plnAll xs
  | .dict _ => false
def plnAll : List D → Bool
  | [] => true
  | x :: xs => pln x && plnAll xs
end
theorem int_len {i : Int} (h : i.natAbs < 2 ^ 1900) : (PyData.shown (.int i)).length ≤ 1901 := by
  show (Str.ofString (toString i)).length ≤ 1901
  rw [ofString_length]
  exact int_text_length_le (k := 1900) (by decide) (PySem.Flt.log2_lt_of (by decide) h)
mutual
theorem pln_ok : ∀ d : D, pln d = true → d.showable = true ∧ d.canLay0 = true ∧ d.leavesShort 1901 = true
  | .none, _ => ⟨rfl, rfl, rfl⟩
  | .bool _, _ => ⟨rfl, rfl, rfl⟩
  | .int i, h => by
    have h : i.natAbs < 2 ^ 1900 := of_decide_eq_true h
    refine ⟨?_, rfl, ?_⟩
    · exact decide_eq_true (by
        have : i.natAbs.log2 < 1900 := PySem.Flt.log2_lt_of (by decide) h
        omega)
    · exact decide_eq_true (int_len h)
  | .str x, h => by
    have h : ((PyData.str x).showable && ((PyData.str x).canLay0 && (PyData.str x).leavesShort 1901)) = true := h -- pln_str
    rw [Bool.and_eq_true, Bool.and_eq_true] at h
    exact ⟨h.1, h.2.1, h.2.2⟩
  | .list xs, h => plnAll_ok xs h
  | .tuple xs, h => plnAll_ok xs h
  | .dict _, h => by cases h
theorem plnAll_ok : ∀ xs : List D, plnAll xs = true → PyData.showableAll xs = true ∧ PyData.canLayAll0 xs = true ∧ PyData.leavesShortAll 1901 xs = true
  | [], _ => ⟨rfl, rfl, rfl⟩
  | x :: xs, h => by
    have h : (pln x && plnAll xs) = true := h
    obtain ⟨h1, h2⟩ := Bool.and_eq_true_iff.mp h
    obtain ⟨a1, a2, a3⟩ := pln_ok x h1
    obtain ⟨b1, b2, b3⟩ := plnAll_ok xs h2
    exact ⟨Bool.and_eq_true_iff.mpr ⟨a1, b1⟩, Bool.and_eq_true_iff.mpr ⟨a2, b2⟩, Bool.and_eq_true_iff.mpr ⟨a3, b3⟩⟩
end
theorem pln_shaped {d : D} (h : pln d = true) (hd : d.depth ≤ 64) : SeqAt.shaped d = true := Bool.and_eq_true_iff.mpr ⟨(pln_ok d h).2.1, decide_eq_true hd⟩
theorem pln_len {d : D} (h : pln d = true) (hb : d.bulk ≤ 8000) : d.shown.length ≤ 16777216 := by
  have := PyData.shown_le_bulk 1901 (by decide) d (pln_ok d h).2.2
  omega
theorem repr_t {ds : List D} (h : pln (.tuple ds) = true) (hd : (PyData.tuple ds).depth ≤ 64) (hb : (PyData.tuple ds).bulk ≤ 8000) : reprD (.tuple ds) = some (.str (PyData.tuple ds).shown) := (cI_eq ..).trans (if_pos ⟨(pln_ok _ h).1, pln_shaped h hd, pln_len h hb⟩)
theorem plnAll_map {γ : Type} (f : γ → D) : ∀ xs : List γ, (∀ x ∈ xs, pln (f x) = true) → plnAll (xs.map f) = true
  | [], _ => rfl
  | x :: xs, h => Bool.and_eq_true_iff.mpr ⟨h x (List.mem_cons_self ..), plnAll_map f xs fun y hy => h y (List.mem_cons_of_mem _ hy)⟩
theorem depthAll_map {γ : Type} (f : γ → D) (k : Nat) : ∀ xs : List γ, (∀ x ∈ xs, (f x).depth ≤ k) → PyData.depthAll (xs.map f) ≤ k
  | [], _ => Nat.zero_le _
  | x :: xs, h => by
    have h1 := h x (List.mem_cons_self ..)
    have h2 := depthAll_map f k xs fun y hy => h y (List.mem_cons_of_mem _ hy)
    simp only [List.map_cons, PyData.depthAll]
    omega
theorem bulkAll_map {γ : Type} (f : γ → D) (k : Nat) : ∀ xs : List γ, (∀ x ∈ xs, (f x).bulk ≤ k) → PyData.bulkAll (xs.map f) ≤ (k + 1) * xs.length
  | [], _ => Nat.zero_le _
  | x :: xs, h => by
    have h1 := h x (List.mem_cons_self ..)
    have h2 := bulkAll_map f k xs fun y hy => h y (List.mem_cons_of_mem _ hy)
    simp only [List.map_cons, PyData.bulkAll, List.length_cons, Nat.mul_add, Nat.mul_one]
    omega
theorem lay_ints : ∀ xs : List Int, PyData.canLayAll0 (xs.map .int) = true
  | [] => rfl
  | _ :: xs => lay_ints xs
theorem shaped_t (xs : List Int) : SeqAt.shaped (.tuple (xs.map .int)) = true := Bool.and_eq_true_iff.mpr ⟨lay_ints xs, decide_eq_true (by
  have := depthAll_map PyData.int 1 xs fun x _ => by simp [PyData.depth]
  simp only [PyData.depth]
  omega)⟩
theorem shaped_l (xs : List Int) : SeqAt.shaped (.list (xs.map .int)) = true := Bool.and_eq_true_iff.mpr ⟨lay_ints xs, decide_eq_true (by
  have := depthAll_map PyData.int 1 xs fun x _ => by simp [PyData.depth]
  simp only [PyData.depth]
  omega)⟩
theorem eqv_ints : ∀ xs ys : List Int, PyData.eqvAll (xs.map .int) (ys.map .int) = decide (xs = ys)
  | [], [] => rfl
  | [], _ :: _ => rfl
  | _ :: _, [] => rfl
  | x :: xs, y :: ys => by
    show ((x == y) && PyData.eqvAll (xs.map .int) (ys.map .int)) = _
    rw [eqv_ints xs ys]
    by_cases h1 : x = y
    · by_cases h2 : xs = ys
      · simp [h1, h2]
      · simp [h1, h2]
    · simp [h1]
@[simp] theorem eqD_T (xs ys : List Int) : eqD (.tuple (xs.map .int)) (.tuple (ys.map .int)) = some (.bool (decide (xs = ys))) := by
  rw [eqD_tt (shaped_t _) (shaped_t _), eqv_ints]
@[simp] theorem neD_T (xs ys : List Int) : neD (.tuple (xs.map .int)) (.tuple (ys.map .int)) = some (.bool (!decide (xs = ys))) := by
  rw [neD_tt (shaped_t _) (shaped_t _), eqv_ints]
@[simp] theorem eqD_L (xs ys : List Int) : eqD (.list (xs.map .int)) (.list (ys.map .int)) = some (.bool (decide (xs = ys))) := by
  rw [eqD_ll (shaped_l _) (shaped_l _), eqv_ints]
@[simp] theorem neD_L (xs ys : List Int) : neD (.list (xs.map .int)) (.list (ys.map .int)) = some (.bool (!decide (xs = ys))) := by
  rw [neD_ll (shaped_l _) (shaped_l _), eqv_ints]
@[simp] theorem neD_b (i j : Bool) : neD (.bool i) (.bool j) = some (.bool (!decide (i = j))) := by
  show some (PyData.bool (!(i == j))) = _
  congr 2
@[simp] theorem eqD_b (i j : Bool) : eqD (.bool i) (.bool j) = some (.bool (decide (i = j))) := by
  show some (PyData.bool (i == j)) = _
  congr 2
@[simp] theorem tru_b (b : Bool) : tru (.bool b) = some b := rfl
@[simp] theorem tru_i (i : Int) : tru (.int i) = some (i != 0) := rfl
@[simp] theorem tru_l (ds : List D) : tru (.list ds) = some (!ds.isEmpty) := rfl
@[simp] theorem tru_t (ds : List D) : tru (.tuple ds) = some (!ds.isEmpty) := rfl
@[simp] theorem absD_i (i : Int) : absD (.int i) = some (.int (if i < 0 then -i else i)) := rfl
@[simp] theorem tupD_l (ds : List D) : tupD (.list ds) = some (.tuple ds) := rfl
@[simp] theorem tupD_t (ds : List D) : tupD (.tuple ds) = some (.tuple ds) := rfl
@[simp] theorem isi_ii (i : Int) : isiD "int" (.int i) = some (.bool true) := by kernel_rfl
@[simp] theorem isi_ib (i : Int) : isiD "bool" (.int i) = some (.bool false) := by kernel_rfl
@[simp] theorem isi_it (i : Int) : isiD "tuple" (.int i) = some (.bool false) := by kernel_rfl
@[simp] theorem isi_tt (ds : List D) : isiD "tuple" (.tuple ds) = some (.bool true) := by kernel_rfl
@[simp] theorem isi_ll (ds : List D) : isiD "list" (.list ds) = some (.bool true) := by kernel_rfl
@[simp] theorem eqS_ap (i : Nat) (mb : M D) (r : En) : eqS i mb r = (match getC i r with
  | some (.l _) => (mb r).bind fun d r => (match getC i r with
    | some (.l ds) => M.opt (eqD0 (.list ds) d) r
    | _ => .no)
  | some (.d _) => .no
  | some (.t _) => .no
  | some (.n _) => .no
  | none => bin eqD (getS i) mb r) := rfl
@[simp] theorem neS_ap (i : Nat) (mb : M D) (r : En) : neS i mb r = (match getC i r with
  | some (.l _) => (mb r).bind fun d r => (match getC i r with
    | some (.l ds) => M.opt (neD (.list ds) d) r
    | _ => .no)
  | some (.d _) => .no
  | some (.t _) => .no
  | some (.n _) => .no
  | none => bin neD (getS i) mb r) := rfl
@[simp] theorem cCall0_ap (f : List Sl → Re RV) (r : En) : cCall0 f r = cCall f aNil r := rfl
@[simp] theorem binO_ap (g : D → D → Option RV) (a b : M D) (r : En) : binO g a b r = (a r).bind fun x r => (b r).bind fun y r => M.opt (g x y) r := rfl
@[simp] theorem addO_l (xs ys : List D) : addO (.list xs) (.list ys) = szC (xs.length + ys.length) (.o (.l (xs ++ ys))) := rfl
@[simp] theorem addO_t (xs ys : List D) : addO (.tuple xs) (.tuple ys) = (szC (xs.length + ys.length) (PyData.tuple (xs ++ ys))).map .v := rfl
@[simp] theorem listD_t (xs : List D) : listD [.tuple xs] = some xs := rfl
@[simp] theorem listD_l (xs : List D) : listD [.list xs] = some xs := rfl
@[simp] theorem addO_i (i j : Int) : addO (.int i) (.int j) = some (.v (.int (i + j))) := rfl
@[simp] theorem mulO_iff (xs : List D) (k : Int) (d : RV) : (mulO (.list xs) (.int k) = some d) = (((-(2 ^ 63) ≤ k ∧ k < 2 ^ 63) ∧ xs.length * k.toNat ≤ 16777216) ∧ .o (.l (List.replicate k.toNat xs).flatten) = d) := by
  show (cI ((-(2 ^ 63) ≤ k ∧ k < 2 ^ 63) ∧ xs.length * k.toNat ≤ 16777216) (some (RV.o (.l (List.replicate k.toNat xs).flatten))) none = some d) = _
  rw [cI_eq]
  exact ite_some _ _ _
@[simp] theorem sAppX_ap (m : M RV) (r : En) : sAppX m r = (m r).bind fun rv r => (match rv with
  | .o (.l ds) => if ds.length < 16777216 then .ok .nx r else .no
  | _ => .no) := by
  show (m r).bind _ = _
  congr 1
  funext rv r
  rcases rv with d | ct
  · rfl
  · cases ct with
    | l ds =>
      simp only
      split <;> rfl
    | d kvs => rfl
    | t kvs => rfl
    | n t => rfl
/-! an answer with a condition -/
@[simp] theorem qo_szM {γ : Type} (n : Nat) (a : γ) (f : γ → α) (r : En) : Po X (M.opt ((szC n a).map f) r) k = (n ≤ 16777216 ∧ k (f a) r) := by
  unfold szC
  by_cases h : n ≤ 16777216
  · rw [if_pos h]
    simp [h]
  · rw [if_neg h]
    simp [h]
@[simp] theorem qo_szC (n : Nat) (a : α) (r : En) : Po X (M.opt (szC n a) r) k = (n ≤ 16777216 ∧ k a r) := by
  rw [qo_opt]
  simp only [szC_iff]
  exact propext ⟨fun ⟨_, ⟨h, e⟩, q⟩ => ⟨h, by rw [e]; exact q⟩, fun ⟨h, q⟩ => ⟨a, ⟨h, rfl⟩, q⟩⟩
section
variable {kd : D → En → Prop} {kl : List D → En → Prop}
@[simp] theorem qo_rng1 (j : Int) (r : En) : Po X (M.opt (rng1 [.int j]) r) kl = ((-(2 ^ 62) ≤ j ∧ j < 2 ^ 62) ∧ kl (rngD 0 j.toNat) r) := by
  rw [qo_opt]
  simp only [rng1_iff]
  exact propext ⟨fun ⟨_, ⟨h, e⟩, q⟩ => ⟨h, by rw [e]; exact q⟩, fun ⟨h, q⟩ => ⟨_, ⟨h, rfl⟩, q⟩⟩
@[simp] theorem qo_rng2 (i j : Int) (r : En) : Po X (M.opt (rng2 [.int i, .int j]) r) kl = (((-(2 ^ 62) ≤ i ∧ i < 2 ^ 62) ∧ (-(2 ^ 62) ≤ j ∧ j < 2 ^ 62)) ∧ kl (rngD i (j - i).toNat) r) := by
  rw [qo_opt]
  simp only [rng2_iff]
  exact propext ⟨fun ⟨_, ⟨h, e⟩, q⟩ => ⟨h, by rw [e]; exact q⟩, fun ⟨h, q⟩ => ⟨_, ⟨h, rfl⟩, q⟩⟩
@[simp] theorem qo_mul (i j : Int) (r : En) : Po X (M.opt (mulD (.int i) (.int j)) r) kd = (mulOk i j ∧ kd (.int (i * j)) r) := by
  rw [qo_opt]
  simp only [mulD_iff]
  exact propext ⟨fun ⟨_, ⟨h, e⟩, q⟩ => ⟨h, by rw [e]; exact q⟩, fun ⟨h, q⟩ => ⟨_, ⟨h, rfl⟩, q⟩⟩
@[simp] theorem qo_fdiv (i j : Int) (r : En) : Po X (M.opt (fdivD (.int i) (.int j)) r) kd = ((j ≠ 0 ∧ j.natAbs.log2 < 9000) ∧ kd (.int (i.fdiv j)) r) := by
  rw [qo_opt]
  simp only [fdivD_iff]
  exact propext ⟨fun ⟨_, ⟨h, e⟩, q⟩ => ⟨h, by rw [e]; exact q⟩, fun ⟨h, q⟩ => ⟨_, ⟨h, rfl⟩, q⟩⟩
@[simp] theorem qo_mod (i j : Int) (r : En) : Po X (M.opt (modD (.int i) (.int j)) r) kd = (j ≠ 0 ∧ kd (.int (i.fmod j)) r) := by
  rw [qo_opt]
  simp only [modD_iff]
  exact propext ⟨fun ⟨_, ⟨h, e⟩, q⟩ => ⟨h, by rw [e]; exact q⟩, fun ⟨h, q⟩ => ⟨_, ⟨h, rfl⟩, q⟩⟩
@[simp] theorem qo_pow (i j : Int) (r : En) : Po X (M.opt (powD (.int i) (.int j)) r) kd = ((0 ≤ j ∧ j ≤ 1000000 ∧ i.natAbs < 2 ^ 64) ∧ kd (.int (i ^ j.toNat)) r) := by
  rw [qo_opt]
  simp only [powD_iff]
  exact propext ⟨fun ⟨_, ⟨h, e⟩, q⟩ => ⟨h, by rw [e]; exact q⟩, fun ⟨h, q⟩ => ⟨_, ⟨h, rfl⟩, q⟩⟩
@[simp] theorem qo_mulO {kr : RV → En → Prop} (xs : List D) (j : Int) (r : En) : Po X (M.opt (mulO (.list xs) (.int j)) r) kr = (((-(2 ^ 63) ≤ j ∧ j < 2 ^ 63) ∧ xs.length * j.toNat ≤ 16777216) ∧ kr (.o (.l (List.replicate j.toNat xs).flatten)) r) := by
  rw [qo_opt]
  simp only [mulO_iff]
  exact propext ⟨fun ⟨_, ⟨h, e⟩, q⟩ => ⟨h, by rw [e]; exact q⟩, fun ⟨h, q⟩ => ⟨_, ⟨h, rfl⟩, q⟩⟩
@[simp] theorem qo_mulL (xs : List D) (k : Int) (r : En) : Po X (M.opt (mulD (.list xs) (.int k)) r) kd = (((-(2 ^ 63) ≤ k ∧ k < 2 ^ 63) ∧ xs.length * k.toNat ≤ 16777216) ∧ kd (.list (List.replicate k.toNat xs).flatten) r) := by
  rw [qo_opt]
  show (∃ a, cI ((-(2 ^ 63) ≤ k ∧ k < 2 ^ 63) ∧ xs.length * k.toNat ≤ 16777216) (some (PyData.list (List.replicate k.toNat xs).flatten)) none = some a ∧ kd a r) = _
  rw [cI_eq]
  simp only [ite_some]
  exact propext ⟨fun ⟨_, ⟨h, e⟩, q⟩ => ⟨h, by rw [e]; exact q⟩, fun ⟨h, q⟩ => ⟨_, ⟨h, rfl⟩, q⟩⟩
@[simp] theorem qo_mulT (xs : List D) (k : Int) (r : En) : Po X (M.opt (mulD (.tuple xs) (.int k)) r) kd = ((-1000 ≤ k ∧ k ≤ 1000 ∧ xs.length ≤ 1000) ∧ kd (.tuple (List.replicate k.toNat xs).flatten) r) := by
  rw [qo_opt]
  show (∃ a, cI (-1000 ≤ k ∧ k ≤ 1000 ∧ xs.length ≤ 1000) (some (PyData.tuple (List.replicate k.toNat xs).flatten)) none = some a ∧ kd a r) = _
  rw [cI_eq]
  simp only [ite_some]
  exact propext ⟨fun ⟨_, ⟨h, e⟩, q⟩ => ⟨h, by rw [e]; exact q⟩, fun ⟨h, q⟩ => ⟨_, ⟨h, rfl⟩, q⟩⟩
@[simp] theorem qo_at (xs : List D) (n : Int) (r : En) : Po X (M.opt (atI xs n) r) kd = ∃ d, atI xs n = some d ∧ kd d r := qo_opt _ _
@[simp] theorem atI_nat {α : Type} (xs : List α) (i : Nat) : atI xs (i : Int) = xs[i]? := by
  unfold atI ixN
  rw [if_pos (by omega)]
  by_cases h : i < xs.length
  · rw [if_pos (by omega)]
    simp
  · rw [if_neg (by omega), List.getElem?_eq_none (by omega)]
    rfl
theorem atI_map {α β : Type} (f : α → β) (xs : List α) (n : Int) : atI (xs.map f) n = (atI xs n).map f := by
  unfold atI
  rw [List.length_map]
  cases ixN xs.length n with
  | none => rfl
  | some j => simp
@[simp high] theorem qo_atI (xs : List Int) (n : Int) (r : En) : Po X (M.opt (atI (xs.map .int) n) r) kd = ∃ c, atI xs n = some c ∧ kd (.int c) r := by
  rw [qo_opt, atI_map]
  cases atI xs n with
  | none => simp
  | some c => simp
end
/-! calls -/
@[simp] theorem qo_call {kk : RV → En → Prop} (f : List Sl → Re RV) (ms : M (List D)) (r : En) : Po X (cCall f ms r) kk = Po X (ms r) fun ds r => Po (fun e _ => X e r) (f (ds.map .v)) fun rv _ => kk rv r := by
  show Po X ((ms r).bind _) kk = _
  rw [qo_bind]
  congr 1
  funext ds r
  cases f (ds.map .v) <;> rfl
def InIo (P : Ct → Prop) : List Sl → Prop
  | .io c :: _ => P c
  | _ => False
@[simp] theorem inIo (P : Ct → Prop) (c : Ct) (t : List Sl) : InIo P (.io c :: t) = P c := rfl
@[simp] theorem qo_callI {kk : RV → En → Prop} (f : List Sl → Re RV) (ms : M (List D)) (i : Nat) (r : En) : Po X (cCallI i f ms r) kk = (match getC i r with
  | none => False
  | some _ => Po X (ms r) fun ds r1 => (match getC i r1 with
    | none => False
    | some ct => Po (fun e z => InIo (fun c => X e (putC i c r1)) z) (f (.io ct :: ds.map .v)) fun rv z => InIo (fun c => kk rv (putC i c r1)) z)) := by
  unfold cCallI
  cases getC i r with
  | none => rfl
  | some c0 =>
    show Po X ((ms r).bind _) kk = _
    rw [qo_bind]
    simp only
    congr 1
    funext ds r1
    cases getC i r1 with
    | none => rfl
    | some ct =>
      simp only
      cases f (.io ct :: ds.map .v) with
      | no => rfl
      | ok rv z => rcases z with _ | ⟨q, z⟩ <;> first | rfl | (cases q <;> rfl)
      | ex rv z => rcases z with _ | ⟨q, z⟩ <;> first | rfl | (cases q <;> rfl)
theorem qo_fn {kk : RV → List Sl → Prop} {n : Nat} {m : M Fl} {rs : List Sl} (h : Po (fun e r => ∃ z, backA rs r = some z ∧ X e z) (m (rs ++ List.replicate (n - rs.length) .unk)) fun fl r => ∃ rv z, backA rs r = some z ∧ (fl = .rt rv ∨ (fl = .nx ∧ rv = .v .none)) ∧ kk rv z) : Po X (fnOf n m rs) kk := by
  unfold fnOf backR flRv
  cases hm : m (rs ++ List.replicate (n - rs.length) .unk) with
  | ok fl r =>
    rw [hm] at h
    obtain ⟨rv, z, hz, hfl, hk⟩ := h
    rcases hfl with rfl | ⟨rfl, rfl⟩
    · simp only [hz]
      exact hk
    · simp only [hz]
      exact hk
  | ex e r =>
    rw [hm] at h
    obtain ⟨z, hz, hk⟩ := h
    simp only [hz]
    exact hk
  | no =>
    rw [hm] at h
    exact h.elim
@[simp] theorem backA_nil (r : En) : backA [] r = some [] := rfl
@[simp] theorem backA_io (c c' : Ct) (s : List Sl) (r : En) : backA (.io c :: s) (.io c' :: r) = (backA s r).map fun z => .io c' :: z := rfl
@[simp] theorem backA_v (d : D) (s : List Sl) (q : Sl) (r : En) : backA (.v d :: s) (q :: r) = (backA s r).map fun z => .v d :: z := rfl
/-! loops -/
theorem qo_for {kk : Fl → En → Prop} {tg : Tg} {b : M Fl} (I : List D → List D → En → Prop) : ∀ (xs done : List D) (r : En), I done xs r →
    (∀ done x xs r, I done (x :: xs) r → ∃ r1, tg x r = some r1 ∧ Po X (b r1) fun fl r2 => (match fl with
      | .nx => I (done ++ [x]) xs r2
      | .ct => I (done ++ [x]) xs r2
      | .bk => kk .nx r2
      | .rt v => kk (.rt v) r2)) → (∀ done r, I done [] r → kk .nx r) → Po X (forL tg b xs r) kk
  | [], done, r, h0, hs, he => he done r h0
  | x :: xs, done, r, h0, hs, he => by
    obtain ⟨r1, h1, h2⟩ := hs done x xs r h0
    unfold forL
    rw [h1]
    simp only
    cases hb : b r1 with
    | no =>
      rw [hb] at h2
      exact h2.elim
    | ex e r2 =>
      rw [hb] at h2
      exact h2
    | ok fl r2 =>
      rw [hb] at h2
      cases fl with
      | nx => exact qo_for I xs (done ++ [x]) r2 h2 hs he
      | ct => exact qo_for I xs (done ++ [x]) r2 h2 hs he
      | bk => exact h2
      | rt v => exact h2
/-- over a list of things told as data -/
theorem qo_forM {γ : Type} {kk : Fl → En → Prop} {tg : Tg} {b : M Fl} {f : γ → D} (I : List γ → En → Prop) (xs : List γ) (r : En) (h0 : I [] r)
    (hs : ∀ done x rest r, xs = done ++ x :: rest → I done r → ∃ r1, tg (f x) r = some r1 ∧ Po X (b r1) fun fl r2 => (match fl with
      | .nx => I (done ++ [x]) r2
      | .ct => I (done ++ [x]) r2
      | .bk => kk .nx r2
      | .rt v => kk (.rt v) r2)) (he : ∀ r, I xs r → kk .nx r) : Po X (forL tg b (xs.map f) r) kk := by
  refine qo_for (fun d1 rest r => ∃ done xs2, xs = done ++ xs2 ∧ rest = xs2.map f ∧ I done r) _ [] r ⟨[], xs, rfl, rfl, h0⟩ ?_ ?_
  · rintro d1 x rest r ⟨done, xs2, e1, e2, hI⟩
    cases xs2 with
    | nil => cases e2
    | cons y ys =>
      cases e2
      obtain ⟨r1, h1, h2⟩ := hs done y ys r e1 hI
      refine ⟨r1, h1, qo_mono h2 fun fl r2 q => ?_⟩
      have e3 : xs = (done ++ [y]) ++ ys := by rw [e1]; simp
      cases fl with
      | nx => exact ⟨_, ys, e3, rfl, q⟩
      | ct => exact ⟨_, ys, e3, rfl, q⟩
      | bk => exact q
      | rt v => exact q
  · rintro d1 r ⟨done, xs2, e1, e2, hI⟩
    cases xs2 with
    | nil =>
      rw [List.append_nil] at e1
      subst e1
      exact he r hI
    | cons y ys => cases e2
/-- range(n): the invariant by the number of turns -/
theorem qo_rng {kk : Fl → En → Prop} {tg : Tg} {b : M Fl} {lo : Int} (I : Nat → En → Prop) (n : Nat) (r : En) (h0 : I 0 r)
    (hs : ∀ i r, i < n → I i r → ∃ r1, tg (.int (lo + (i : Nat))) r = some r1 ∧ Po X (b r1) fun fl r2 => (match fl with
      | .nx => I (i + 1) r2
      | .ct => I (i + 1) r2
      | .bk => kk .nx r2
      | .rt v => kk (.rt v) r2)) (he : ∀ r, I n r → kk .nx r) : Po X (forL tg b (rngD lo n) r) kk := by
  refine qo_forM (f := fun k : Nat => PyData.int (lo + (k : Nat))) (fun done r => I done.length r) (List.range n) r h0 ?_ ?_
  · intro done x rest r e hI
    have hl : (List.range n).length = (done ++ x :: rest).length := by rw [e]
    rw [List.length_range, List.length_append, List.length_cons] at hl
    have hx : x = done.length := by
      have h1 : (List.range n)[done.length]? = some x := by rw [e]; simp
      rw [List.getElem?_range (by omega)] at h1
      cases h1
      rfl
    subst hx
    obtain ⟨r1, h1, h2⟩ := hs done.length r (by omega) hI
    refine ⟨r1, h1, qo_mono h2 fun fl r2 q => ?_⟩
    rw [List.length_append, List.length_singleton]
    exact q
  · intro r h
    rw [List.length_range] at h
    exact he r h
@[simp] theorem sFor_ap (src : M (List D)) (tg : Tg) (b : M Fl) (r : En) : sFor src tg b r = (src r).bind fun xs r => forL tg b xs r := rfl
theorem qo_while {kk : Fl → En → Prop} {t : M Bool} {b : M Fl} (I : Nat → En → Prop)
    (hs : ∀ n r, I n r → Po X (t r) fun x r1 => if x = true then Po X (b r1) fun fl r2 => (match fl with
      | .nx => ∃ m, m < n ∧ I m r2
      | .ct => ∃ m, m < n ∧ I m r2
      | .bk => kk .nx r2
      | .rt v => kk (.rt v) r2) else kk .nx r1) (n : Nat) (r : En) (h0 : I n r) : Po X (sWhile t b r) kk := by
  have key : ∀ n r, I n r → ∃ f, Po X (wloop t b f r) kk := by
    intro n
    induction n using Nat.strongRecOn with
    | ind n ih =>
      intro r h
      have h1 := hs n r h
      cases ht : t r with
      | no =>
        rw [ht] at h1
        exact h1.elim
      | ex e r1 =>
        rw [ht] at h1
        refine ⟨1, ?_⟩
        unfold wloop
        rw [ht]
        exact h1
      | ok x r1 =>
        rw [ht] at h1
        cases x with
        | false =>
          refine ⟨1, ?_⟩
          unfold wloop
          rw [ht]
          exact h1
        | true =>
          have h2 : Po X (b r1) fun fl r2 => (match fl with
            | .nx => ∃ m, m < n ∧ I m r2
            | .ct => ∃ m, m < n ∧ I m r2
            | .bk => kk .nx r2
            | .rt v => kk (.rt v) r2) := h1
          cases hb : b r1 with
          | no =>
            rw [hb] at h2
            exact h2.elim
          | ex e r2 =>
            rw [hb] at h2
            refine ⟨1, ?_⟩
            unfold wloop
            rw [ht]
            simp only [hb]
            exact h2
          | ok fl r2 =>
            rw [hb] at h2
            cases fl with
            | nx =>
              obtain ⟨m, hm, h3⟩ := h2
              obtain ⟨f, hf⟩ := ih m hm r2 h3
              refine ⟨f + 1, ?_⟩
              unfold wloop
              rw [ht]
              simp only [hb]
              exact hf
            | ct =>
              obtain ⟨m, hm, h3⟩ := h2
              obtain ⟨f, hf⟩ := ih m hm r2 h3
              refine ⟨f + 1, ?_⟩
              unfold wloop
              rw [ht]
              simp only [hb]
              exact hf
            | bk =>
              refine ⟨1, ?_⟩
              unfold wloop
              rw [ht]
              simp only [hb]
              exact h2
            | rt v =>
              refine ⟨1, ?_⟩
              unfold wloop
              rw [ht]
              simp only [hb]
              exact h2
  obtain ⟨f, hf⟩ := key n r h0
  have hn : wloop t b f r ≠ .no := fun z => by
    rw [z] at hf
    exact hf
  rw [sWhile_of (n := f) rfl hn]
  exact hf
/-! the same, with what comes behind hidden -/
theorem qo_step {kk : Fl → En → Prop} {m n : M Fl} {r : En} (h : ∀ K : Fl → En → Prop, (∀ r', Po X (n r') kk → K .nx r') → (∀ v r', kk (.rt v) r' → K (.rt v) r') → (∀ r', kk .bk r' → K .bk r') → (∀ r', kk .ct r' → K .ct r') → Po X (m r) K) : Po X (sSeq m n r) kk := by
  rw [qo_seq]
  exact h _ (fun _ q => q) (fun _ _ q => q) (fun _ q => q) fun _ q => q
theorem qo_fnK {kk : RV → List Sl → Prop} {n : Nat} {m : M Fl} {rs : List Sl} (h : ∀ (Y : Exn → En → Prop) (K : Fl → En → Prop), (∀ e r z, backA rs r = some z → X e z → Y e r) → (∀ v r z, backA rs r = some z → kk v z → K (.rt v) r) → (∀ r z, backA rs r = some z → kk (.v .none) z → K .nx r) → Po Y (m (rs ++ List.replicate (n - rs.length) .unk)) K) : Po X (fnOf n m rs) kk :=
  qo_fn (h _ _ (fun _ _ z hz q => ⟨z, hz, q⟩) (fun v _ z hz q => ⟨v, z, hz, .inl rfl, q⟩) fun _ z hz q => ⟨_, z, hz, .inr ⟨rfl, rfl⟩, q⟩)
theorem qo_forK {γ : Type} {kk : Fl → En → Prop} {tg : Tg} {b : M Fl} {f : γ → D} (I : List γ → En → Prop) (xs : List γ) (r : En) (h0 : I [] r)
    (hs : ∀ done x rest r, xs = done ++ x :: rest → I done r → ∃ r1, tg (f x) r = some r1 ∧ ∀ K : Fl → En → Prop, (∀ r2, I (done ++ [x]) r2 → K .nx r2) → (∀ v r2, kk (.rt v) r2 → K (.rt v) r2) → (∀ r2, I (done ++ [x]) r2 → K .ct r2) → (∀ r2, kk .nx r2 → K .bk r2) → Po X (b r1) K) (he : ∀ r, I xs r → kk .nx r) : Po X (forL tg b (xs.map f) r) kk :=
  qo_forM I xs r h0 (fun done x rest r e h => by
    obtain ⟨r1, h1, h2⟩ := hs done x rest r e h
    exact ⟨r1, h1, h2 _ (fun _ q => q) (fun _ _ q => q) (fun _ q => q) fun _ q => q⟩) he
theorem qo_rngK {kk : Fl → En → Prop} {tg : Tg} {b : M Fl} {lo : Int} (I : Nat → En → Prop) (n : Nat) (r : En) (h0 : I 0 r)
    (hs : ∀ i r, i < n → I i r → ∃ r1, tg (.int (lo + (i : Nat))) r = some r1 ∧ ∀ K : Fl → En → Prop, (∀ r2, I (i + 1) r2 → K .nx r2) → (∀ v r2, kk (.rt v) r2 → K (.rt v) r2) → (∀ r2, I (i + 1) r2 → K .ct r2) → (∀ r2, kk .nx r2 → K .bk r2) → Po X (b r1) K) (he : ∀ r, I n r → kk .nx r) : Po X (forL tg b (rngD lo n) r) kk :=
  qo_rng I n r h0 (fun i r hi h => by
    obtain ⟨r1, h1, h2⟩ := hs i r hi h
    exact ⟨r1, h1, h2 _ (fun _ q => q) (fun _ _ q => q) (fun _ q => q) fun _ q => q⟩) he
@[simp] theorem oDict0_ap (r : En) : oDict0 r = .ok (.o (.d [])) r := rfl
@[simp] theorem zipOf_T (a b : List Int) : zipOf [.tuple (a.map .int), .tuple (b.map .int)] = some ((List.zip a b).map fun p => .tuple [.int p.1, .int p.2]) := by
  show some (zipD (a.map .int) (b.map .int)) = _
  unfold zipD
  rw [List.zipWith_map, List.map_zip_eq_zipWith]
  rfl
theorem ixN_nat {n i : Nat} (h : i < n) : ixN n (i : Int) = some i := by
  unfold ixN
  rw [if_pos (by omega), if_pos (by omega), Int.toNat_natCast]
@[simp] theorem isD_bb (a b : Bool) : isD (.bool a) (.bool b) = some (.bool (decide (a = b))) := rfl
@[simp] theorem isntD_bb (a b : Bool) : isntD (.bool a) (.bool b) = some (.bool (!decide (a = b))) := rfl
@[simp] theorem boolD_i (i : Int) : boolD (.int i) = some (.bool (i != 0)) := rfl
@[simp] theorem boolD_b (b : Bool) : boolD (.bool b) = some (.bool b) := rfl
@[simp] theorem eIndex_ap (mo me : M D) (r : En) : eIndex mo me r = (mo r).bind fun d r => (match d with
  | .list ds => (me r).bind fun b r => M.opt (indexD (.list ds) b) r
  | _ => .no) := by
  show (mo r).bind (fun d => (match d with
  | .list ds => me.bind fun b => M.opt (indexD (.list ds) b)
  | _ => M.no)) = _
  congr 1
  funext d r
  cases d <;> rfl
@[simp] theorem ePop_ap (i : Nat) (m : M D) (r : En) : ePop i m r = (match getC i r with
  | some (.l _) => (m r).bind fun d r => match getC i r with
    | some (.l ds) => (match popD ds d with
      | some p => .ok p.1 (putC i (.l p.2) r)
      | none => .no)
    | _ => .no
  | _ => .no) := rfl
@[simp] theorem isi_bi (b : Bool) : isiD "int" (.bool b) = some (.bool true) := by kernel_rfl
@[simp] theorem isi_bb (b : Bool) : isiD "bool" (.bool b) = some (.bool true) := by kernel_rfl
@[simp] theorem isi_bt (b : Bool) : isiD "tuple" (.bool b) = some (.bool false) := by kernel_rfl
@[simp] theorem isi_bs (b : Bool) : isiD "str" (.bool b) = some (.bool false) := by kernel_rfl
@[simp] theorem isi_ni : isiD "int" .none = some (.bool false) := by kernel_rfl
@[simp] theorem isi_nb : isiD "bool" .none = some (.bool false) := by kernel_rfl
@[simp] theorem isi_nt : isiD "tuple" .none = some (.bool false) := by kernel_rfl
@[simp] theorem isi_ns : isiD "str" .none = some (.bool false) := by kernel_rfl
@[simp] theorem isi_nl : isiD "list" .none = some (.bool false) := by kernel_rfl
@[simp] theorem isi_si (x : Str) : isiD "int" (.str x) = some (.bool false) := by kernel_rfl
@[simp] theorem isi_sb (x : Str) : isiD "bool" (.str x) = some (.bool false) := by kernel_rfl
@[simp] theorem isi_st (x : Str) : isiD "tuple" (.str x) = some (.bool false) := by kernel_rfl
@[simp] theorem isi_ss (x : Str) : isiD "str" (.str x) = some (.bool true) := by kernel_rfl
@[simp] theorem isi_sl (x : Str) : isiD "list" (.str x) = some (.bool false) := by kernel_rfl
@[simp] theorem isi_is (i : Int) : isiD "str" (.int i) = some (.bool false) := by kernel_rfl
@[simp] theorem isi_il (i : Int) : isiD "list" (.int i) = some (.bool false) := by kernel_rfl
@[simp] theorem isi_li (ds : List D) : isiD "int" (.list ds) = some (.bool false) := by kernel_rfl
@[simp] theorem isi_lb (ds : List D) : isiD "bool" (.list ds) = some (.bool false) := by kernel_rfl
@[simp] theorem isi_lt (ds : List D) : isiD "tuple" (.list ds) = some (.bool false) := by kernel_rfl
@[simp] theorem isi_ls (ds : List D) : isiD "str" (.list ds) = some (.bool false) := by kernel_rfl
@[simp] theorem isi_ti (ds : List D) : isiD "int" (.tuple ds) = some (.bool false) := by kernel_rfl
@[simp] theorem isi_tb (ds : List D) : isiD "bool" (.tuple ds) = some (.bool false) := by kernel_rfl
@[simp] theorem isi_ts (ds : List D) : isiD "str" (.tuple ds) = some (.bool false) := by kernel_rfl
@[simp] theorem isi_tl (ds : List D) : isiD "list" (.tuple ds) = some (.bool false) := by kernel_rfl
def isFnH : List (D × D) → Bool
  | (.bool _, _) :: _ => true
  | _ => false
@[simp] theorem isFnH_nil : isFnH [] = false := rfl
@[simp] theorem isFnH_str (x : Str) (e : D) (r : List (D × D)) : isFnH ((.str x, e) :: r) = false := rfl
@[simp] theorem isFnH_int (x : Int) (e : D) (r : List (D × D)) : isFnH ((.int x, e) :: r) = false := rfl
@[simp] theorem isFnH_tup (x : List D) (e : D) (r : List (D × D)) : isFnH ((.tuple x, e) :: r) = false := rfl
@[simp] theorem isFnH_map (kv : List (Int × D)) : isFnH (kv.map fun q => (PyData.int q.1, q.2)) = false := by cases kv <;> rfl
theorem isi_dicts {T : String} (hT : T ∈ basicT) (hk : kitB "dict" T = some false) (ds : List (D × D)) (hd : isFnH ds = false) : isiD T (.dict ds) = some (.bool false) := by
  cases ds with
  | nil =>
    show (kitB "dict" T).map PyData.bool = _
    rw [hk]
    rfl
  | cons x r =>
    obtain ⟨k, e⟩ := x
    cases k with
    | str x =>
      show (if T ∈ basicT then some (PyData.bool false) else none) = _
      rw [if_pos hT]
    | bool b => cases hd
    | _ =>
      show (kitB "dict" T).map PyData.bool = _
      rw [hk]
      rfl
@[simp] theorem isi_di (ds : List (D × D)) (hd : isFnH ds = false) : isiD "int" (.dict ds) = some (.bool false) := isi_dicts (by decide) (by kernel_rfl) ds hd
@[simp] theorem isi_db (ds : List (D × D)) (hd : isFnH ds = false) : isiD "bool" (.dict ds) = some (.bool false) := isi_dicts (by decide) (by kernel_rfl) ds hd
@[simp] theorem isi_dt (ds : List (D × D)) (hd : isFnH ds = false) : isiD "tuple" (.dict ds) = some (.bool false) := isi_dicts (by decide) (by kernel_rfl) ds hd
@[simp] theorem isi_ds (ds : List (D × D)) (hd : isFnH ds = false) : isiD "str" (.dict ds) = some (.bool false) := isi_dicts (by decide) (by kernel_rfl) ds hd
@[simp] theorem isi_dl (ds : List (D × D)) (hd : isFnH ds = false) : isiD "list" (.dict ds) = some (.bool false) := isi_dicts (by decide) (by kernel_rfl) ds hd
/-! comprehensions -/
@[simp] theorem qo_comp {kk : RV → En → Prop} (src : M (List D)) (is : List Nat) (tg : Tg) (tt : M Bool) (te : M D) (r : En) : Po X (oComp src is tg tt te r) kk = Po X (src r) fun xs r => noOwn r is = true ∧ Po (fun _ _ => False) (compL is tg tt te xs [] r) fun ys q => kk (.o (.l ys)) (backE r (wipeE q is) is) := by
  show Po X ((src r).bind _) kk = _
  rw [qo_bind]
  congr 1
  funext xs r
  by_cases h : noOwn r is = true
  · rw [if_pos h]
    cases compL is tg tt te xs [] r with
    | ok ys q => simp [h]
    | ex e q => simp
    | no => simp
  · rw [if_neg h]
    simp [h]
@[simp] theorem compL_nil (is : List Nat) (tg : Tg) (tt : M Bool) (te : M D) (acc : List D) (r : En) : compL is tg tt te [] acc r = .ok acc r := rfl
theorem qo_compL {kl : List D → En → Prop} (is : List Nat) (tg : Tg) (tt : M Bool) (te : M D) (x : D) (xs acc : List D) (r : En) : Po (fun _ _ => False) (compL is tg tt te (x :: xs) acc r) kl = (match tg x (wipeE r is) with
  | none => False
  | some r1 => Po (fun _ _ => False) (tt r1) fun b r2 => if b = true then Po (fun _ _ => False) (te r2) fun y r3 => acc.length < 16777216 ∧ Po (fun _ _ => False) (compL is tg tt te xs (acc ++ [y]) r3) kl else Po (fun _ _ => False) (compL is tg tt te xs acc r2) kl) := by
  show Po _ (match tg x (wipeE r is) with
    | none => .no
    | some r1 => match tt r1 with
      | .ok true r2 => (match te r2 with
        | .ok y r3 => if acc.length < 16777216 then compL is tg tt te xs (acc ++ [y]) r3 else .no
        | _ => .no)
      | .ok false r2 => compL is tg tt te xs acc r2
      | _ => .no) kl = _
  cases tg x (wipeE r is) with
  | none => rfl
  | some r1 =>
    simp only
    cases tt r1 with
    | no => rfl
    | ex e r2 => rfl
    | ok b r2 =>
      cases b with
      | false => rfl
      | true =>
        simp only [qo_ok, if_true]
        cases te r2 with
        | no => rfl
        | ex e r3 => rfl
        | ok y r3 =>
          simp only [qo_ok]
          by_cases h : acc.length < 16777216
          · rw [if_pos h]
            simp [h]
          · rw [if_neg h]
            simp [h]
@[simp] theorem yes_ap (r : En) : yes r = .ok true r := rfl
/-- each thing to one datum, nothing else changed -/
theorem qo_compM {γ : Type} {kl : List D → En → Prop} {is : List Nat} {tg : Tg} {te : M D} {f : γ → D} {g : γ → D} (J : En → Prop) : ∀ (xs : List γ) (acc : List D) (r : En), J r → acc.length + xs.length ≤ 16777216 →
    (∀ x ∈ xs, ∀ r, J r → ∃ r1, tg (f x) (wipeE r is) = some r1 ∧ Po (fun _ _ => False) (te r1) fun y r3 => y = g x ∧ J r3) → (∀ r, J r → kl (acc ++ xs.map g) r) → Po (fun _ _ => False) (compL is tg yes te (xs.map f) acc r) kl
  | [], acc, r, hJ, _, _, he => by
    have := he r hJ
    rw [List.map_nil, List.append_nil] at this
    exact this
  | x :: xs, acc, r, hJ, hl, hs, he => by
    rw [List.map_cons, qo_compL]
    obtain ⟨r1, h1, h2⟩ := hs x (List.mem_cons_self ..) r hJ
    rw [h1]
    simp only [yes_ap, qo_ok, if_true]
    refine qo_mono h2 ?_
    rintro y r3 ⟨rfl, hJ3⟩
    rw [List.length_cons] at hl
    refine ⟨by omega, qo_compM J xs (acc ++ [g x]) r3 hJ3 (by rw [List.length_append, List.length_singleton]; omega) (fun z hz => hs z (List.mem_cons_of_mem _ hz)) fun r hr => ?_⟩
    have := he r hr
    rw [List.map_cons] at this
    rw [List.append_assoc]
    exact this
/-- .. gathered so far as many as are gone through -/
theorem qo_compC {γ : Type} {kl : List D → En → Prop} {is : List Nat} {tg : Tg} {te : M D} {f : γ → D} (J : List D → En → Prop) (xs : List γ) (r : En) (hJ : J [] r) (hl : xs.length ≤ 16777216)
    (hs : ∀ x acc r, xs[acc.length]? = some x → J acc r → ∃ r1, tg (f x) (wipeE r is) = some r1 ∧ ∀ K : D → En → Prop, (∀ y r3, J (acc ++ [y]) r3 → K y r3) → Po (fun _ _ => False) (te r1) K) (he : ∀ acc r, acc.length = xs.length → J acc r → kl acc r) : Po (fun _ _ => False) (compL is tg yes te (xs.map f) [] r) kl := by
  have key : ∀ (rest done : List γ) (acc : List D) (r : En), xs = done ++ rest → acc.length = done.length → J acc r → Po (fun _ _ => False) (compL is tg yes te (rest.map f) acc r) kl := by
    intro rest
    induction rest with
    | nil =>
      intro done acc r e hl h
      rw [List.append_nil] at e
      exact he acc r (by rw [hl, e]) h
    | cons x rest ih =>
      intro done acc r e hl2 h
      rw [List.map_cons, qo_compL]
      obtain ⟨r1, h1, h2⟩ := hs x acc r (by rw [e, hl2]; simp) h
      rw [h1]
      simp only [yes_ap, qo_ok, if_true]
      refine h2 _ ?_
      intro y r3 hJ3
      have hlen : xs.length = done.length + (rest.length + 1) := by rw [e, List.length_append, List.length_cons]
      exact ⟨by omega, ih (done ++ [x]) (acc ++ [y]) r3 (by rw [e]; simp) (by simp [hl2]) hJ3⟩
  exact key xs [] [] r rfl rfl hJ
/-- with a test -/
theorem qo_compF {γ : Type} {kl : List D → En → Prop} {is : List Nat} {tg : Tg} {tt : M Bool} {te : M D} {f : γ → D} {g : γ → D} {p : γ → Bool} (J : En → Prop) : ∀ (xs : List γ) (acc : List D) (r : En), J r → acc.length + xs.length ≤ 16777216 →
    (∀ x ∈ xs, ∀ r, J r → ∃ r1, tg (f x) (wipeE r is) = some r1 ∧ Po (fun _ _ => False) (tt r1) fun b r2 => b = p x ∧ (p x = false → J r2) ∧ (p x = true → Po (fun _ _ => False) (te r2) fun y r3 => y = g x ∧ J r3)) → (∀ r, J r → kl (acc ++ (xs.filter p).map g) r) → Po (fun _ _ => False) (compL is tg tt te (xs.map f) acc r) kl
  | [], acc, r, hJ, _, _, he => by
    have := he r hJ
    rw [List.filter_nil, List.map_nil, List.append_nil] at this
    exact this
  | x :: xs, acc, r, hJ, hl, hs, he => by
    rw [List.map_cons, qo_compL]
    obtain ⟨r1, h1, h2⟩ := hs x (List.mem_cons_self ..) r hJ
    rw [h1]
    simp only
    rw [List.length_cons] at hl
    refine qo_mono h2 ?_
    rintro b r2 ⟨rfl, h3, h4⟩
    cases hp : p x with
    | false =>
      rw [if_neg Bool.false_ne_true]
      refine qo_compF J xs acc r2 (h3 hp) (by omega) (fun z hz => hs z (List.mem_cons_of_mem _ hz)) fun r hr => ?_
      have := he r hr
      rw [List.filter_cons_of_neg (by rw [hp]; exact Bool.false_ne_true)] at this
      exact this
    | true =>
      rw [if_pos rfl]
      refine qo_mono (h4 hp) ?_
      rintro y r3 ⟨rfl, hJ3⟩
      refine ⟨by omega, qo_compF J xs (acc ++ [g x]) r3 hJ3 (by rw [List.length_append, List.length_singleton]; omega) (fun z hz => hs z (List.mem_cons_of_mem _ hz)) fun r hr => ?_⟩
      have := he r hr
      rw [List.filter_cons_of_pos hp, List.map_cons] at this
      rw [List.append_assoc]
      exact this
@[simp] theorem wipe_nil (r : En) : wipeE r [] = r := rfl
@[simp] theorem wipe_cons (r : En) (i : Nat) (is : List Nat) : wipeE r (i :: is) = (wipeE r is).set i .unk := rfl
@[simp] theorem back_nil (r q : En) : backE r q [] = q := rfl
@[simp] theorem back_cons (r q : En) (i : Nat) (is : List Nat) : backE r q (i :: is) = (backE r q is).set i (r.getD i .unk) := rfl
@[simp] theorem noOwn_nil (r : En) : noOwn r [] = true := rfl
@[simp] theorem noOwn_cons (r : En) (i : Nat) (is : List Nat) : noOwn r (i :: is) = ((match r[i]? with
  | some s => s.own.isNone
  | none => false) && noOwn r is) := rfl
@[simp] theorem allD_b (ds : List D) : allD (.list ds) = (boolsOf ds).map fun bs => .bool (bs.all id) := rfl
@[simp] theorem anyD_b (ds : List D) : anyD (.list ds) = (boolsOf ds).map fun bs => .bool (bs.any id) := rfl
@[simp] theorem boolsOf_nil : boolsOf [] = some [] := rfl
@[simp] theorem boolsOf_cons (b : Bool) (ds : List D) : boolsOf (.bool b :: ds) = (boolsOf ds).map (b :: ·) := rfl
@[simp] theorem boolsOf_map {γ : Type} (f : γ → Bool) : ∀ xs : List γ, boolsOf (xs.map fun x => .bool (f x)) = some (xs.map f)
  | [] => rfl
  | x :: xs => by
    rw [List.map_cons, boolsOf_cons, boolsOf_map f xs]
    rfl
/-! numbers -/
theorem mulOk_l {i j : Int} (h : -(2 ^ 63) < i ∧ i < 2 ^ 63) : mulOk i j := .inl (by omega)
theorem mulOk_r {i j : Int} (h : -(2 ^ 63) < j ∧ j < 2 ^ 63) : mulOk i j := .inr (.inl (by omega))
theorem fmod_pos (a : Int) {n : Int} (h : 0 < n) : 0 ≤ a.fmod n ∧ a.fmod n < n := by
  rw [Int.fmod_eq_emod_of_nonneg _ (by omega)]
  exact ⟨Int.emod_nonneg _ (by omega), Int.emod_lt_of_pos _ h⟩
theorem fdiv_nn {a n : Int} (ha : 0 ≤ a) (h : 0 < n) : 0 ≤ a.fdiv n := by
  rw [Int.fdiv_eq_ediv_of_nonneg _ (by omega)]
  exact Int.ediv_nonneg ha (by omega)
theorem fmod_nat (x p : Nat) : (x : Int).fmod p = ((x % p : Nat) : Int) := by
  rw [Int.fmod_eq_emod_of_nonneg _ (by omega)]
  rfl
theorem atI_all {α : Type} {P : α → Prop} {xs : List α} {n : Int} (h0 : 0 ≤ n) (h1 : n < xs.length) (h : ∀ x ∈ xs, P x) : ∃ c, atI xs n = some c ∧ P c := by
  unfold atI ixN
  rw [if_pos h0, if_pos h1]
  exact ⟨xs[n.toNat]'(by omega), by simp, h _ (List.getElem_mem _)⟩
@[simp] theorem mulOk_sl (i j : Int) (h1 : -(2 ^ 63) < i) (h2 : i < 2 ^ 63) : mulOk i j := mulOk_l ⟨h1, h2⟩
@[simp] theorem mulOk_sr (i j : Int) (h1 : -(2 ^ 63) < j) (h2 : j < 2 ^ 63) : mulOk i j := mulOk_r ⟨h1, h2⟩
@[simp] theorem mulOk_ml (x m j : Int) (h0 : 0 < m) (h1 : m < 2 ^ 63) : mulOk (x % m) j := by
  have a1 := Int.emod_nonneg x (show m ≠ 0 by omega)
  have a2 := Int.emod_lt_of_pos x h0
  exact mulOk_l ⟨by omega, by omega⟩
@[simp] theorem mulOk_mr (x m i : Int) (h0 : 0 < m) (h1 : m < 2 ^ 63) : mulOk i (x % m) := by
  have a1 := Int.emod_nonneg x (show m ≠ 0 by omega)
  have a2 := Int.emod_lt_of_pos x h0
  exact mulOk_r ⟨by omega, by omega⟩
@[simp] theorem log2_s (n : Nat) (h : n < 2 ^ 64) : n.log2 < 9000 := by
  have : n.log2 < 64 := PySem.Flt.log2_lt_of (by decide) h
  omega
@[simp] theorem abs_nn (c : Int) : 0 ≤ (if c < 0 then -c else c) := by split <;> omega
@[simp] theorem sInsert_ap (i : Nat) (mk m : M D) (r : En) : sInsert i mk m r = (match getC i r with
  | some (.l _) => (mk r).bind fun k r => (m r).bind fun d r => (match k, getC i r with
    | .int n, some (.l ds) => cI (ds.length < 16777216 ∧ 0 ≤ n ∧ n < 2 ^ 63) (.ok .nx (putC i (.l (ds.take n.toNat ++ [d] ++ ds.drop n.toNat)) r)) .no
    | _, _ => .no)
  | _ => .no) := rfl
@[simp] theorem qo_cI (p : Prop) (x : Re α) : Po X (cI p x .no) k = (p ∧ Po X x k) := by
  by_cases h : p
  · have : cI p x .no = x := by unfold cI; exact if_pos h
    rw [this]
    simp [h]
  · have : cI p x .no = .no := by unfold cI; exact if_neg h
    rw [this]
    simp [h]
theorem zip3D_map {γ δ ε : Type} (f : γ → D) (g : δ → D) (h : ε → D) : ∀ (xs : List γ) (ys : List δ) (zs : List ε), zip3D (xs.map f) (ys.map g) (zs.map h) = (List.zip xs (List.zip ys zs)).map fun p => .tuple [f p.1, g p.2.1, h p.2.2]
  | [], _, _ => rfl
  | _ :: _, [], _ => rfl
  | _ :: _, _ :: _, [] => rfl
  | x :: xs, y :: ys, z :: zs => by
    simp only [List.map_cons, zip3D, zip3D_map f g h xs ys zs, List.zip_cons_cons]
@[simp] theorem zip3Of_T (a b c : List Int) : zip3Of [.tuple (a.map .int), .tuple (b.map .int), .tuple (c.map .int)] = some ((List.zip a (List.zip b c)).map fun p => .tuple [.int p.1, .int p.2.1, .int p.2.2]) := congrArg some (zip3D_map _ _ _ a b c)
/-! exceptions -/
@[simp] theorem sRaiseF_ap (nm : Str) (fs : List Str) (ms : M (List D)) (r : En) : sRaiseF nm fs ms r = (ms r).bind fun ds r => if ds.length = fs.length then .ex ⟨nm, (fs.zip ds).reverse⟩ r else .no := rfl
@[simp] theorem sRaise_ap (nm : Str) (r : En) : sRaise nm r = .ex ⟨nm, []⟩ r := rfl
@[simp] theorem exOf_ap (nm : Str) : exOf ⟨nm, []⟩ = .dict [(.str nm, .none)] := rfl
@[simp] theorem isED_ap (ns : List Str) (y nm : Str) (kv : List (D × D)) : isED ns y (.dict ((.str nm, .none) :: kv)) = if nm ∈ ns then some (.bool (isB nm y)) else none := rfl
@[simp] theorem isEV_ap (ns : List Str) (nm : Str) (kv : List (D × D)) : isEV ns (.dict ((.str nm, .none) :: kv)) = if nm ∈ ns then some (.bool true) else none := rfl
@[simp] theorem isET_ap (ns ys : List Str) (nm : Str) (kv : List (D × D)) : isET ns ys (.dict ((.str nm, .none) :: kv)) = if nm ∈ ns then some (.bool (ys.any fun y => isB nm y)) else none := rfl
@[simp] theorem isntD_d (kv : List (D × D)) : isntD (.dict kv) .none = some (.bool true) := rfl
@[simp] theorem isD_d (kv : List (D × D)) : isD (.dict kv) .none = some (.bool false) := rfl
@[simp] theorem lamRes_rt (r r2 : En) (rv : RV) : lamRes r (.ok (.rt rv) r2) = .ok rv r := rfl
@[simp] theorem lamRes_nx (r r2 : En) : lamRes r (.ok .nx r2) = .ok (.v .none) r := rfl
@[simp] theorem hide_v (d : D) : hideS (.v d) = .v d := rfl
@[simp] theorem hide_u : hideS .unk = .unk := rfl
@[simp] theorem hide_o (c : Ct) : hideS (.o c) = .unk := rfl
@[simp] theorem hide_io (c : Ct) : hideS (.io c) = .unk := rfl
@[simp] theorem qo_lamR {kk : RV → En → Prop} (r : En) (m : Re Fl) : Po X (lamRes r m) kk = Po (fun _ _ => False) m fun fl _ => (match fl with
  | .rt rv => kk rv r
  | .nx => kk (.v .none) r
  | _ => False) := by
  cases m with
  | no => rfl
  | ex e r1 => rfl
  | ok fl r1 => cases fl <;> rfl
@[simp] theorem qo_lam {kk : RV → En → Prop} (ns : List Str) (n i : Nat) (br : M Fl) (th : M D) (r : En) : Po X (cLam ns n i br th r) kk = Po (fun e _ => e.name ∈ ns ∧ Po X (lamRes r (br ((List.replicate n Sl.unk).set i (.v (exOf e))))) kk) (th (r.map hideS)) fun _ _ => Po X (lamRes r (br ((List.replicate n Sl.unk).set i (.v .none)))) kk := by
  unfold cLam
  cases th (r.map hideS) with
  | ok fl r1 => rfl
  | no => rfl
  | ex e r1 =>
    show Po X (if e.name ∈ ns then _ else _) kk = (e.name ∈ ns ∧ _)
    by_cases h : e.name ∈ ns
    · rw [if_pos h]
      simp only [h, true_and]
    · rw [if_neg h]
      simp only [h, false_and]
      rfl
@[simp] theorem qo_try {kk : Fl → En → Prop} (ns : List Str) (j i : Nat) (mb : M Fl) (r : En) : Po X (sTry ns j i mb r) kk = Po (fun e r1 => e.name ∈ ns ∧ (match (setN j (.v (exOf e)) r1).bind (setN i (.v (exOf e))) with
  | some r2 => kk .nx (r2.set j .unk)
  | none => False)) (mb r) kk := by
  unfold sTry
  cases mb r with
  | ok fl r1 => rfl
  | no => rfl
  | ex e r1 =>
    show Po X (if e.name ∈ ns then _ else _) kk = (e.name ∈ ns ∧ _)
    by_cases h : e.name ∈ ns
    · rw [if_pos h]
      simp only [h, true_and]
      cases (setN j (.v (exOf e)) r1).bind (setN i (.v (exOf e))) <;> rfl
    · rw [if_neg h]
      simp [h]
/-! the pen -/
def pen (cs : List Int) (a l : Int) : Ct := .d [(.inr "cells", .list (cs.map .int)), (.inr "at", .int a), (.inr "left", .int l)]
def penL (cs : List Int) (a l : Int) : List (Key × D) := [(.inr "cells", .list (cs.map .int)), (.inr "at", .int a), (.inr "left", .int l)]
@[simp] theorem pen_c (cs : List Int) (a l : Int) : vK (penL cs a l) (.inr "cells") = some (.list (cs.map .int)) := rfl
@[simp] theorem pen_a (cs : List Int) (a l : Int) : vK (penL cs a l) (.inr "at") = some (.int a) := rfl
@[simp] theorem pen_l (cs : List Int) (a l : Int) : vK (penL cs a l) (.inr "left") = some (.int l) := rfl
@[simp] theorem pen_pa (cs : List Int) (a l b : Int) : pK (penL cs a l) (.inr "at") (.int b) = penL cs b l := rfl
@[simp] theorem pen_pl (cs : List Int) (a l b : Int) : pK (penL cs a l) (.inr "left") (.int b) = penL cs a b := rfl
@[simp] theorem pen_len (cs : List Int) (a l : Int) : (penL cs a l).length = 3 := rfl
@[simp] theorem keyD_s (x : Str) : keyD (.str x) = some (.inr x) := rfl
@[simp] theorem keyD_i (x : Int) : keyD (.int x) = some (.inl x) := rfl
def cutG {γ : Type} (xs : List γ) (lo hi : Option Int) : List γ := (xs.drop (HT.sIx xs.length 0 lo)).take (HT.sIx xs.length xs.length hi - HT.sIx xs.length 0 lo)
theorem cutL_map {γ : Type} (f : γ → D) (xs : List γ) (lo hi : Option Int) : cutL (xs.map f) lo hi = (cutG xs lo hi).map f := by
  unfold cutL cutG
  rw [List.length_map, List.map_take, List.map_drop]
/-- .. with at most n draws from it -/
def PenB (cs : List Int) (n : Nat) (c : Ct) : Prop := ∃ a l, c = pen cs a l ∧ 0 ≤ a ∧ a ≤ n ∧ 0 ≤ l
theorem PenB.le {cs : List Int} {n m : Nat} {c : Ct} (h : PenB cs n c) (hm : n ≤ m) : PenB cs m c := by
  obtain ⟨a, l, h1, h2, h3, h4⟩ := h
  exact ⟨a, l, h1, h2, by omega, h4⟩
theorem cutL_take (xs : List D) (k : Nat) : cutL xs none (some (k : Int)) = xs.take k := by
  unfold cutL
  rw [HT.sIx_none, HT.sIx_nat, List.drop_zero]
  rw [Nat.sub_zero]
  by_cases h : k ≤ xs.length
  · rw [Nat.min_eq_left h]
  · rw [Nat.min_eq_right (by omega), List.take_length, List.take_of_length_le (by omega)]
theorem cutL_drop (xs : List D) (k : Nat) : cutL xs (some (k : Int)) none = xs.drop k := by
  unfold cutL
  rw [HT.sIx_none, HT.sIx_nat]
  by_cases h : k ≤ xs.length
  · rw [Nat.min_eq_left h, List.take_of_length_le (by rw [List.length_drop]; exact Nat.le_refl _)]
  · rw [Nat.min_eq_right (by omega), List.drop_length, List.drop_of_length_le (by omega)]
    simp
theorem intsOf_mp : ∀ ns : List Int, intsOf (ns.map .int) = some ns
  | [] => rfl
  | k :: ks => by
    show (intsOf (ks.map .int)).map (k :: ·) = some (k :: ks)
    rw [intsOf_mp ks]
    rfl
/-! ### the same, shut to the elaborator's own reckoning -/
section
variable {α β : Type} {X : Exn → En → Prop} {k : α → En → Prop}
@[irreducible] def Wp {α : Type} (X : Exn → En → Prop) (x : Re α) (k : α → En → Prop) : Prop := Po X x k
theorem wp_eq {α : Type} {X : Exn → En → Prop} {x : Re α} {k : α → En → Prop} : Wp X x k = Po X x k := by
  unfold Wp
  rfl
variable {kd : D → En → Prop} {kl : List D → En → Prop}
@[simp] theorem po_ok (a : α) (r : En) : Wp X (.ok a r) k = k a r := by
  rw [wp_eq]
  rfl
@[simp] theorem po_ex (e : Exn) (r : En) : Wp X (.ex e r) k = X e r := by
  rw [wp_eq]
  rfl
@[simp] theorem po_no : Wp X (.no : Re α) k = False := by
  rw [wp_eq]
  rfl
@[simp] theorem po_bind (x : Re β) (f : β → M α) : Wp X (x.bind f) k = Wp X x fun a r => Wp X (f a r) k := by
  simp only [wp_eq, qo_bind]
theorem po_mono {x : Re α} {k' : α → En → Prop} (h : Wp X x k') (i : ∀ a r, k' a r → k a r) : Wp X x k := by
  simp only [wp_eq] at *
  exact qo_mono h i
theorem po_true {f : Re RV} (h : Wp (fun _ _ => False) f fun rv _ => rv = .v (.bool true)) : ∃ r, f = .ok (.v (.bool true)) r := by
  simp only [wp_eq] at *
  exact qo_true h
theorem po_seq {kk : Fl → En → Prop} (m n : M Fl) (r : En) : Wp X (sSeq m n r) kk = Wp X (m r) fun fl r => (match fl with
  | .nx => Wp X (n r) kk
  | f => kk f r) := by
  simp only [wp_eq, qo_seq]
@[simp] theorem po_ite (p : Prop) [Decidable p] (x y : Re α) : Wp X (if p then x else y) k = if p then Wp X x k else Wp X y k := by
  simp only [wp_eq, qo_ite]
@[simp] theorem po_szM {γ : Type} (n : Nat) (a : γ) (f : γ → α) (r : En) : Wp X (M.opt ((szC n a).map f) r) k = (n ≤ 16777216 ∧ k (f a) r) := by
  simp only [wp_eq, qo_szM]
@[simp] theorem po_szC (n : Nat) (a : α) (r : En) : Wp X (M.opt (szC n a) r) k = (n ≤ 16777216 ∧ k a r) := by
  simp only [wp_eq, qo_szC]
@[simp] theorem po_rng1 (j : Int) (r : En) : Wp X (M.opt (rng1 [.int j]) r) kl = ((-(2 ^ 62) ≤ j ∧ j < 2 ^ 62) ∧ kl (rngD 0 j.toNat) r) := by
  simp only [wp_eq, qo_rng1]
@[simp] theorem po_rng2 (i j : Int) (r : En) : Wp X (M.opt (rng2 [.int i, .int j]) r) kl = (((-(2 ^ 62) ≤ i ∧ i < 2 ^ 62) ∧ (-(2 ^ 62) ≤ j ∧ j < 2 ^ 62)) ∧ kl (rngD i (j - i).toNat) r) := by
  simp only [wp_eq, qo_rng2]
@[simp] theorem po_mul (i j : Int) (r : En) : Wp X (M.opt (mulD (.int i) (.int j)) r) kd = (mulOk i j ∧ kd (.int (i * j)) r) := by
  simp only [wp_eq, qo_mul]
@[simp] theorem po_fdiv (i j : Int) (r : En) : Wp X (M.opt (fdivD (.int i) (.int j)) r) kd = ((j ≠ 0 ∧ j.natAbs.log2 < 9000) ∧ kd (.int (i.fdiv j)) r) := by
  simp only [wp_eq, qo_fdiv]
@[simp] theorem po_mod (i j : Int) (r : En) : Wp X (M.opt (modD (.int i) (.int j)) r) kd = (j ≠ 0 ∧ kd (.int (i.fmod j)) r) := by
  simp only [wp_eq, qo_mod]
@[simp] theorem po_pow (i j : Int) (r : En) : Wp X (M.opt (powD (.int i) (.int j)) r) kd = ((0 ≤ j ∧ j ≤ 1000000 ∧ i.natAbs < 2 ^ 64) ∧ kd (.int (i ^ j.toNat)) r) := by
  simp only [wp_eq, qo_pow]
@[simp] theorem po_mulO {kr : RV → En → Prop} (xs : List D) (j : Int) (r : En) : Wp X (M.opt (mulO (.list xs) (.int j)) r) kr = (((-(2 ^ 63) ≤ j ∧ j < 2 ^ 63) ∧ xs.length * j.toNat ≤ 16777216) ∧ kr (.o (.l (List.replicate j.toNat xs).flatten)) r) := by
  simp only [wp_eq, qo_mulO]
@[simp] theorem po_mulL (xs : List D) (k : Int) (r : En) : Wp X (M.opt (mulD (.list xs) (.int k)) r) kd = (((-(2 ^ 63) ≤ k ∧ k < 2 ^ 63) ∧ xs.length * k.toNat ≤ 16777216) ∧ kd (.list (List.replicate k.toNat xs).flatten) r) := by
  simp only [wp_eq, qo_mulL]
@[simp] theorem po_mulT (xs : List D) (k : Int) (r : En) : Wp X (M.opt (mulD (.tuple xs) (.int k)) r) kd = ((-1000 ≤ k ∧ k ≤ 1000 ∧ xs.length ≤ 1000) ∧ kd (.tuple (List.replicate k.toNat xs).flatten) r) := by
  simp only [wp_eq, qo_mulT]
@[simp] theorem po_at (xs : List D) (n : Int) (r : En) : Wp X (M.opt (atI xs n) r) kd = ∃ d, atI xs n = some d ∧ kd d r := by
  simp only [wp_eq, qo_at]
@[simp high] theorem po_atI (xs : List Int) (n : Int) (r : En) : Wp X (M.opt (atI (xs.map .int) n) r) kd = ∃ c, atI xs n = some c ∧ kd (.int c) r := by
  simp only [wp_eq, qo_atI]
@[simp] theorem po_call {kk : RV → En → Prop} (f : List Sl → Re RV) (ms : M (List D)) (r : En) : Wp X (cCall f ms r) kk = Wp X (ms r) fun ds r => Wp (fun e _ => X e r) (f (ds.map .v)) fun rv _ => kk rv r := by
  simp only [wp_eq, qo_call]
@[simp] theorem po_callI {kk : RV → En → Prop} (f : List Sl → Re RV) (ms : M (List D)) (i : Nat) (r : En) : Wp X (cCallI i f ms r) kk = (match getC i r with
  | none => False
  | some _ => Wp X (ms r) fun ds r1 => (match getC i r1 with
    | none => False
    | some ct => Wp (fun e z => InIo (fun c => X e (putC i c r1)) z) (f (.io ct :: ds.map .v)) fun rv z => InIo (fun c => kk rv (putC i c r1)) z)) := by
  simp only [wp_eq, qo_callI]
theorem po_fn {kk : RV → List Sl → Prop} {n : Nat} {m : M Fl} {rs : List Sl} (h : Wp (fun e r => ∃ z, backA rs r = some z ∧ X e z) (m (rs ++ List.replicate (n - rs.length) .unk)) fun fl r => ∃ rv z, backA rs r = some z ∧ (fl = .rt rv ∨ (fl = .nx ∧ rv = .v .none)) ∧ kk rv z) : Wp X (fnOf n m rs) kk := by
  simp only [wp_eq] at *
  exact qo_fn h
theorem po_while {kk : Fl → En → Prop} {t : M Bool} {b : M Fl} (I : Nat → En → Prop)
    (hs : ∀ n r, I n r → Wp X (t r) fun x r1 => if x = true then Wp X (b r1) fun fl r2 => (match fl with
      | .nx => ∃ m, m < n ∧ I m r2
      | .ct => ∃ m, m < n ∧ I m r2
      | .bk => kk .nx r2
      | .rt v => kk (.rt v) r2) else kk .nx r1) (n : Nat) (r : En) (h0 : I n r) : Wp X (sWhile t b r) kk := by
  simp only [wp_eq] at *
  exact qo_while I hs n r h0
theorem po_step {kk : Fl → En → Prop} {m n : M Fl} {r : En} (h : ∀ K : Fl → En → Prop, (∀ r', Wp X (n r') kk → K .nx r') → (∀ v r', kk (.rt v) r' → K (.rt v) r') → (∀ r', kk .bk r' → K .bk r') → (∀ r', kk .ct r' → K .ct r') → Wp X (m r) K) : Wp X (sSeq m n r) kk := by
  simp only [wp_eq] at *
  exact qo_step h
theorem po_fnK {kk : RV → List Sl → Prop} {n : Nat} {m : M Fl} {rs : List Sl} (h : ∀ (Y : Exn → En → Prop) (K : Fl → En → Prop), (∀ e r z, backA rs r = some z → X e z → Y e r) → (∀ v r z, backA rs r = some z → kk v z → K (.rt v) r) → (∀ r z, backA rs r = some z → kk (.v .none) z → K .nx r) → Wp Y (m (rs ++ List.replicate (n - rs.length) .unk)) K) : Wp X (fnOf n m rs) kk := by
  simp only [wp_eq] at *
  exact qo_fnK h
theorem po_forK {γ : Type} {kk : Fl → En → Prop} {tg : Tg} {b : M Fl} {f : γ → D} (I : List γ → En → Prop) (xs : List γ) (r : En) (h0 : I [] r)
    (hs : ∀ done x rest r, xs = done ++ x :: rest → I done r → ∃ r1, tg (f x) r = some r1 ∧ ∀ K : Fl → En → Prop, (∀ r2, I (done ++ [x]) r2 → K .nx r2) → (∀ v r2, kk (.rt v) r2 → K (.rt v) r2) → (∀ r2, I (done ++ [x]) r2 → K .ct r2) → (∀ r2, kk .nx r2 → K .bk r2) → Wp X (b r1) K) (he : ∀ r, I xs r → kk .nx r) : Wp X (forL tg b (xs.map f) r) kk := by
  simp only [wp_eq] at *
  exact qo_forK I xs r h0 hs he
theorem po_rngK {kk : Fl → En → Prop} {tg : Tg} {b : M Fl} {lo : Int} (I : Nat → En → Prop) (n : Nat) (r : En) (h0 : I 0 r)
    (hs : ∀ i r, i < n → I i r → ∃ r1, tg (.int (lo + (i : Nat))) r = some r1 ∧ ∀ K : Fl → En → Prop, (∀ r2, I (i + 1) r2 → K .nx r2) → (∀ v r2, kk (.rt v) r2 → K (.rt v) r2) → (∀ r2, I (i + 1) r2 → K .ct r2) → (∀ r2, kk .nx r2 → K .bk r2) → Wp X (b r1) K) (he : ∀ r, I n r → kk .nx r) : Wp X (forL tg b (rngD lo n) r) kk := by
  simp only [wp_eq] at *
  exact qo_rngK I n r h0 hs he
@[simp] theorem po_comp {kk : RV → En → Prop} (src : M (List D)) (is : List Nat) (tg : Tg) (tt : M Bool) (te : M D) (r : En) : Wp X (oComp src is tg tt te r) kk = Wp X (src r) fun xs r => noOwn r is = true ∧ Wp (fun _ _ => False) (compL is tg tt te xs [] r) fun ys q => kk (.o (.l ys)) (backE r (wipeE q is) is) := by
  simp only [wp_eq, qo_comp]
theorem po_compM {γ : Type} {kl : List D → En → Prop} {is : List Nat} {tg : Tg} {te : M D} {f : γ → D} {g : γ → D} (J : En → Prop) : ∀ (xs : List γ) (acc : List D) (r : En), J r → acc.length + xs.length ≤ 16777216 →
    (∀ x ∈ xs, ∀ r, J r → ∃ r1, tg (f x) (wipeE r is) = some r1 ∧ Wp (fun _ _ => False) (te r1) fun y r3 => y = g x ∧ J r3) → (∀ r, J r → kl (acc ++ xs.map g) r) → Wp (fun _ _ => False) (compL is tg yes te (xs.map f) acc r) kl := by
  intro xs acc r hJ hl hs he
  simp only [wp_eq] at *
  exact qo_compM J xs acc r hJ hl hs he
theorem po_compC {γ : Type} {kl : List D → En → Prop} {is : List Nat} {tg : Tg} {te : M D} {f : γ → D} (J : List D → En → Prop) (xs : List γ) (r : En) (hJ : J [] r) (hl : xs.length ≤ 16777216)
    (hs : ∀ x acc r, xs[acc.length]? = some x → J acc r → ∃ r1, tg (f x) (wipeE r is) = some r1 ∧ ∀ K : D → En → Prop, (∀ y r3, J (acc ++ [y]) r3 → K y r3) → Wp (fun _ _ => False) (te r1) K) (he : ∀ acc r, acc.length = xs.length → J acc r → kl acc r) : Wp (fun _ _ => False) (compL is tg yes te (xs.map f) [] r) kl := by
  simp only [wp_eq] at *
  exact qo_compC J xs r hJ hl hs he
theorem po_compF {γ : Type} {kl : List D → En → Prop} {is : List Nat} {tg : Tg} {tt : M Bool} {te : M D} {f : γ → D} {g : γ → D} {p : γ → Bool} (J : En → Prop) : ∀ (xs : List γ) (acc : List D) (r : En), J r → acc.length + xs.length ≤ 16777216 →
    (∀ x ∈ xs, ∀ r, J r → ∃ r1, tg (f x) (wipeE r is) = some r1 ∧ Wp (fun _ _ => False) (tt r1) fun b r2 => b = p x ∧ (p x = false → J r2) ∧ (p x = true → Wp (fun _ _ => False) (te r2) fun y r3 => y = g x ∧ J r3)) → (∀ r, J r → kl (acc ++ (xs.filter p).map g) r) → Wp (fun _ _ => False) (compL is tg tt te (xs.map f) acc r) kl := by
  intro xs acc r hJ hl hs he
  simp only [wp_eq] at *
  exact qo_compF J xs acc r hJ hl hs he
@[simp] theorem po_cI (p : Prop) (x : Re α) : Wp X (cI p x .no) k = (p ∧ Wp X x k) := by
  simp only [wp_eq, qo_cI]
@[simp] theorem po_lamR {kk : RV → En → Prop} (r : En) (m : Re Fl) : Wp X (lamRes r m) kk = Wp (fun _ _ => False) m fun fl _ => (match fl with
  | .rt rv => kk rv r
  | .nx => kk (.v .none) r
  | _ => False) := by
  simp only [wp_eq, qo_lamR]
@[simp] theorem po_lam {kk : RV → En → Prop} (ns : List Str) (n i : Nat) (br : M Fl) (th : M D) (r : En) : Wp X (cLam ns n i br th r) kk = Wp (fun e _ => e.name ∈ ns ∧ Wp X (lamRes r (br ((List.replicate n Sl.unk).set i (.v (exOf e))))) kk) (th (r.map hideS)) fun _ _ => Wp X (lamRes r (br ((List.replicate n Sl.unk).set i (.v .none)))) kk := by
  simp only [wp_eq, qo_lam]
@[simp] theorem po_try {kk : Fl → En → Prop} (ns : List Str) (j i : Nat) (mb : M Fl) (r : En) : Wp X (sTry ns j i mb r) kk = Wp (fun e r1 => e.name ∈ ns ∧ (match (setN j (.v (exOf e)) r1).bind (setN i (.v (exOf e))) with
  | some r2 => kk .nx (r2.set j .unk)
  | none => False)) (mb r) kk := by
  simp only [wp_eq, qo_try]
end
end Pu
namespace Pu
open PySem L2
variable [TabT]
/-! ### comprehensions of pure members, by the surroundings themselves -/
theorem set_back (r : En) (i : Nat) (s t : Sl) (hi : i < r.length) : ((r.set i s).set i t).set i (r.getD i .unk) = r := by
  rw [List.set_set, List.set_set]
  apply List.ext_getElem?
  intro k
  rw [List.getElem?_set]
  by_cases h : i = k
  · subst h
    rw [if_pos rfl, if_pos hi, List.getD_eq_getElem?_getD, List.getElem?_eq_getElem hi]
    rfl
  · rw [if_neg h]
theorem own_lt {r : En} {i : Nat} {is : List Nat} (h : noOwn r (i :: is) = true) : i < r.length ∧ noOwn r is = true := by
  rw [noOwn_cons, Bool.and_eq_true] at h
  refine ⟨?_, h.2⟩
  have h1 := h.1
  cases hr : r[i]? with
  | none =>
    rw [hr] at h1
    cases h1
  | some s => exact (List.getElem?_eq_some_iff.mp hr).1
theorem po_LC1 {γ : Type} {X : Exn → En → Prop} {kk : RV → En → Prop} {src : M (List D)} {i : Nat} {te : M D} {r : En} (f g : γ → D) (xs : List γ) (hsrc : Wp X (src r) fun ds r' => ds = xs.map f ∧ r' = r) (ho : noOwn r [i] = true) (hl : xs.length ≤ 16777216) (hb : ∀ x ∈ xs, Wp (fun _ _ => False) (te (r.set i (.v (f x)))) fun y r3 => y = g x ∧ r3 = r.set i (.v (f x))) (hk : kk (.o (.l (xs.map g))) r) : Wp X (oComp src [i] (gN i) yes te r) kk := by
  rw [po_comp]
  refine po_mono hsrc ?_
  rintro _ _ ⟨rfl, rfl⟩
  refine ⟨ho, ?_⟩
  have hi := (own_lt ho).1
  rename_i q
  refine po_compM (f := f) (g := g) (fun r => ∃ s, r = q.set i s) xs [] q ⟨q[i], by rw [List.set_getElem_self]⟩ (by simpa using hl) ?_ ?_
  · rintro x hx _ ⟨s, rfl⟩
    refine ⟨q.set i (.v (f x)), ?_, po_mono (hb x hx) ?_⟩
    · simp [hi]
    · rintro y r3 ⟨h1, h2⟩
      exact ⟨h1, _, h2⟩
  · rintro _ ⟨s, rfl⟩
    rw [List.nil_append]
    simp only [wipe_cons, wipe_nil, back_cons, back_nil]
    rw [set_back _ _ _ _ hi]
    exact hk
theorem set_back2 (r : En) (i j : Nat) (s t s2 t2 : Sl) (hi : i < r.length) (hj : j < r.length) : (((((r.set i s).set j t).set j s2).set i t2).set j (r.getD j .unk)).set i (r.getD i .unk) = r := by
  apply List.ext_getElem?
  intro k
  simp only [List.getElem?_set, List.length_set]
  by_cases h : i = k
  · subst h
    simp [hi, List.getD_eq_getElem?_getD]
  · by_cases h2 : j = k
    · subst h2
      simp [h, hj, List.getD_eq_getElem?_getD]
    · simp [h, h2]
theorem po_LC2 {γ : Type} {X : Exn → En → Prop} {kk : RV → En → Prop} {src : M (List D)} {i j : Nat} {te : M D} {r : En} (f1 f2 g : γ → D) (xs : List γ) (hsrc : Wp X (src r) fun ds r' => (ds = xs.map fun x => .tuple [f1 x, f2 x]) ∧ r' = r) (ho : noOwn r [i, j] = true) (hij : i ≠ j) (hl : xs.length ≤ 16777216) (hb : ∀ x ∈ xs, Wp (fun _ _ => False) (te ((r.set i (.v (f1 x))).set j (.v (f2 x)))) fun y r3 => y = g x ∧ r3 = (r.set i (.v (f1 x))).set j (.v (f2 x))) (hk : kk (.o (.l (xs.map g))) r) : Wp X (oComp src [i, j] (gT (gCn (gN i) (gCn (gN j) gNl))) yes te r) kk := by
  rw [po_comp]
  refine po_mono hsrc ?_
  rintro _ _ ⟨rfl, rfl⟩
  refine ⟨ho, ?_⟩
  have hi := (own_lt ho).1
  have hj := (own_lt (own_lt ho).2).1
  rename_i q
  refine po_compM (f := fun x => .tuple [f1 x, f2 x]) (g := g) (fun r => ∃ s t, r = (q.set i s).set j t) xs [] q ⟨q[i], q[j], by rw [List.set_getElem_self, List.set_getElem_self]⟩ (by simpa using hl) ?_ ?_
  · rintro x hx _ ⟨s, t, rfl⟩
    refine ⟨(q.set i (.v (f1 x))).set j (.v (f2 x)), ?_, po_mono (hb x hx) ?_⟩
    · simp only [wipe_cons, wipe_nil]
      have e : (((q.set i s).set j t).set j Sl.unk).set i Sl.unk = (q.set j Sl.unk).set i Sl.unk := by
        rw [List.set_set, List.set_comm _ _ (Ne.symm hij), List.set_set, List.set_comm _ _ hij]
      rw [e]
      simp only [gT_ap, gCn_ap, gN_ap, gNl_ap, setN_ap]
      have e1 : ((q.set j Sl.unk).set i Sl.unk)[i]? = some .unk := by simp [hi]
      rw [e1]
      simp only [io_unk, Bool.false_eq_true, if_false, Option.bind_some]
      have e2 : (((q.set j Sl.unk).set i Sl.unk).set i (.v (f1 x)))[j]? = some .unk := by
        rw [List.set_set, List.getElem?_set_ne hij]
        simp [hj]
      rw [e2]
      simp only [io_unk, Bool.false_eq_true, if_false, Option.bind_some]
      congr 1
      rw [List.set_set, List.set_comm _ _ hij, List.set_set]
      exact List.set_comm _ _ (Ne.symm hij)
    · rintro y r3 ⟨h1, h2⟩
      exact ⟨h1, _, _, h2⟩
  · rintro _ ⟨s, t, rfl⟩
    rw [List.nil_append]
    simp only [wipe_cons, wipe_nil, back_cons, back_nil]
    rw [set_back2 _ _ _ _ _ _ _ hi hj]
    exact hk
/-! ### what can be told as a text -/
def Rq (dp bk : Nat) (d : D) : Prop := pln d = true ∧ d.depth ≤ dp ∧ d.bulk ≤ bk
theorem Rq.int {i : Int} (h : i.natAbs < 2 ^ 1900) : Rq 1 0 (.int i) := ⟨decide_eq_true h, by simp [PyData.depth], by simp [PyData.bulk]⟩
theorem Rq.mono {a b a' b' : Nat} {d : D} (h : Rq a b d) (h1 : a ≤ a') (h2 : b ≤ b') : Rq a' b' d := ⟨h.1, Nat.le_trans h.2.1 h1, Nat.le_trans h.2.2 h2⟩
theorem Rq.all {dp bk n : Nat} {ds : List D} (hl : ds.length ≤ n) (h : ∀ d ∈ ds, Rq dp bk d) : plnAll ds = true ∧ PyData.depthAll ds ≤ dp ∧ PyData.bulkAll ds ≤ (bk + 1) * n := by
  have e : ds.map (fun d : D => d) = ds := by simp
  have h1 := plnAll_map (fun d : D => d) ds fun d hd => (h d hd).1
  have h2 := depthAll_map (fun d : D => d) dp ds fun d hd => (h d hd).2.1
  have h3 := bulkAll_map (fun d : D => d) bk ds fun d hd => (h d hd).2.2
  rw [e] at h1 h2 h3
  exact ⟨h1, h2, Nat.le_trans h3 (Nat.mul_le_mul_left _ hl)⟩
theorem Rq.tup {dp bk n : Nat} {ds : List D} (hl : ds.length ≤ n) (h : ∀ d ∈ ds, Rq dp bk d) : Rq (dp + 1) ((bk + 1) * n) (.tuple ds) := by
  obtain ⟨h1, h2, h3⟩ := Rq.all hl h
  exact ⟨h1, by simp only [PyData.depth]; omega, by simp only [PyData.bulk]; exact h3⟩
theorem Rq.lst {dp bk n : Nat} {ds : List D} (hl : ds.length ≤ n) (h : ∀ d ∈ ds, Rq dp bk d) : Rq (dp + 1) ((bk + 1) * n) (.list ds) := by
  obtain ⟨h1, h2, h3⟩ := Rq.all hl h
  exact ⟨h1, by simp only [PyData.depth]; omega, by simp only [PyData.bulk]; exact h3⟩
@[simp] theorem eRemove_ap (i : Nat) (m : M D) (r : En) : eRemove i m r = (match getC i r with
  | some (.l _) => (m r).bind fun d r => match getC i r with
    | some (.l ds) => cI (SeqAt.shaped d = true ∧ SeqAt.shaped (.list ds) = true ∧ (SeqAt.dataPlace ds d).isSome = true) (.ok .none (putC i (.l (ds.eraseIdx ((SeqAt.dataPlace ds d).getD 0))) r)) .no
    | _ => .no
  | _ => .no) := rfl
@[simp] theorem eCount_ap (mo me : M D) (r : En) : eCount mo me r = (mo r).bind fun d r => (match d with
  | .list ds => (me r).bind fun b r => M.opt (countD (.list ds) b) r
  | _ => .no) := by
  show (mo r).bind (fun d => (match d with
  | .list ds => me.bind fun b => M.opt (countD (.list ds) b)
  | _ => M.no)) = _
  congr 1
  funext d r
  cases d <;> rfl
@[simp] theorem eGet_ap (i : Nat) (mk mx : M D) (r : En) : eGet i mk mx r = (match getC i r with
  | some (.d _) => (mk r).bind fun k r => (mx r).bind fun x r => (match getC i r with
    | some (.d kvs) => (match keyD k with
      | some y => .ok ((vK kvs y).getD x) r
      | none => .no)
    | _ => .no)
  | _ => .no) := rfl
@[simp] theorem eClear_ap (i : Nat) (r : En) : eClear i r = (match getC i r with
  | some (.l _) => .ok .none (putC i (.l []) r)
  | _ => .no) := rfl
@[simp] theorem zipW_tl (a b : List D) : zipW [.tuple a, .list b] = some (zipD a b) := rfl
@[simp] theorem zipW_ll (a b : List D) : zipW [.list a, .list b] = some (zipD a b) := rfl
theorem zipD_map {γ δ : Type} (f : γ → D) (g : δ → D) (xs : List γ) (ys : List δ) : zipD (xs.map f) (ys.map g) = (List.zip xs ys).map fun p => .tuple [f p.1, g p.2] := by
  unfold zipD
  rw [List.zipWith_map, List.map_zip_eq_zipWith]
  rfl
@[simp] theorem eReprS_ap (i : Nat) (r : En) : eReprS i r = (match getC i r with
  | some (.l ds) => M.opt (reprD (.list ds)) r
  | some (.d _) => .no
  | some (.t _) => .no
  | some (.n (.l its)) => M.opt (reprD (.list (its.map Im.data))) r
  | some (.n _) => .no
  | none => nry (one reprD) (aCons (getS i) aNil) r) := rfl
@[simp] theorem eIsiS_ap (T : String) (i : Nat) (r : En) : eIsiS T i r = (match getC i r with
  | some (.l ds) => M.opt ((kitB "list" T).map PyData.bool) r
  | some (.d _) => M.opt ((kitB "dict" T).map PyData.bool) r
  | some (.t _) => .no
  | some (.n (.l _)) => M.opt ((kitB "list" T).map PyData.bool) r
  | some (.n _) => .no
  | none => una (isiD T) (getS i) r) := rfl
@[simp] theorem eTupS_ap (i : Nat) (r : En) : eTupS i r = (match getC i r with
  | some (.l ds) => .ok (.tuple ds) r
  | some (.d _) => .no
  | some (.t _) => .no
  | some (.n _) => .no
  | none => nry (one tupD) (aCons (getS i) aNil) r) := rfl
@[simp] theorem kit_ll : kitB "list" "list" = some true := by kernel_rfl
@[simp] theorem kit_lt : kitB "list" "tuple" = some false := by kernel_rfl
@[simp] theorem oListK_ap (i : Nat) (r : En) : oListK i r = (match getC i r with
  | some (.d kvs) => .ok (.o (.l (kvs.map fun kv => kD kv.1))) r
  | some (.l _) => .no
  | some (.t _) => .no
  | some (.n _) => .no
  | none => nryO listD (aCons (getS i) aNil) r) := rfl
@[simp] theorem oSortK_ap (i : Nat) (r : En) : oSortK i r = (match getC i r with
  | some (.d kvs) => (match intKs (kvs.map (·.1)) with
    | some is => cI (is.length < 64) (.ok (.o (.l ((isort is).map .int))) r) .no
    | none => .no)
  | some (.l _) => .no
  | some (.t _) => .no
  | some (.n _) => .no
  | none => nryO sortD (aCons (getS i) aNil) r) := rfl
@[simp] theorem maxdD_l (ns : List Int) (d : Int) : maxdD (.list (ns.map .int)) (.int d) = some (.int (maxI d ns)) := by
  show (intsOf (ns.map PyData.int)).map (fun ns => PyData.int (maxI d ns)) = _
  rw [intsOf_mp]
  rfl
@[simp] theorem noL_i (i : Int) : noL (.int i) = true := rfl
@[simp] theorem noL_t (ds : List D) : noL (.tuple ds) = noLAll ds := rfl
@[simp] theorem noL_nil : noLAll [] = true := rfl
@[simp] theorem kD_l (i : Int) : kD (.inl i) = .int i := rfl
/-! ### what can be told as a text, of short numbers, much of it -/
def Rs (dp bk : Nat) (d : D) : Prop := (pln d = true ∧ d.leavesShort 60 = true) ∧ d.depth ≤ dp ∧ d.bulk ≤ bk
theorem leaves_all {k : Nat} : ∀ {ds : List D}, (∀ d ∈ ds, d.leavesShort k = true) → PyData.leavesShortAll k ds = true
  | [], _ => rfl
  | d :: ds, h => Bool.and_eq_true_iff.mpr ⟨h d (List.mem_cons_self ..), leaves_all fun x hx => h x (List.mem_cons_of_mem _ hx)⟩
theorem Rs.int {i : Int} (h : i.natAbs < 2 ^ 50) : Rs 1 0 (.int i) := ⟨⟨decide_eq_true (Nat.lt_of_lt_of_le h (Nat.pow_le_pow_right (by decide) (by decide))), decide_eq_true (by
  show (Str.ofString (toString i)).length ≤ 60
  rw [ofString_length]
  have := int_text_length_le (k := 50) (by decide) (PySem.Flt.log2_lt_of (by decide) h)
  omega)⟩, by simp [PyData.depth], by simp [PyData.bulk]⟩
theorem Rs.mono {a b a' b' : Nat} {d : D} (h : Rs a b d) (h1 : a ≤ a') (h2 : b ≤ b') : Rs a' b' d := ⟨h.1, Nat.le_trans h.2.1 h1, Nat.le_trans h.2.2 h2⟩
theorem Rs.all {dp bk n : Nat} {ds : List D} (hl : ds.length ≤ n) (h : ∀ d ∈ ds, Rs dp bk d) : plnAll ds = true ∧ PyData.leavesShortAll 60 ds = true ∧ PyData.depthAll ds ≤ dp ∧ PyData.bulkAll ds ≤ (bk + 1) * n := by
  have e : ds.map (fun d : D => d) = ds := by simp
  have h1 := plnAll_map (fun d : D => d) ds fun d hd => (h d hd).1.1
  have h2 := depthAll_map (fun d : D => d) dp ds fun d hd => (h d hd).2.1
  have h3 := bulkAll_map (fun d : D => d) bk ds fun d hd => (h d hd).2.2
  rw [e] at h1 h2 h3
  exact ⟨h1, leaves_all fun d hd => (h d hd).1.2, h2, Nat.le_trans h3 (Nat.mul_le_mul_left _ hl)⟩
theorem Rs.tup {dp bk n : Nat} {ds : List D} (hl : ds.length ≤ n) (h : ∀ d ∈ ds, Rs dp bk d) : Rs (dp + 1) ((bk + 1) * n) (.tuple ds) := by
  obtain ⟨h1, h4, h2, h3⟩ := Rs.all hl h
  exact ⟨⟨h1, h4⟩, by simp only [PyData.depth]; omega, by simp only [PyData.bulk]; exact h3⟩
theorem Rs.lst {dp bk n : Nat} {ds : List D} (hl : ds.length ≤ n) (h : ∀ d ∈ ds, Rs dp bk d) : Rs (dp + 1) ((bk + 1) * n) (.list ds) := by
  obtain ⟨h1, h4, h2, h3⟩ := Rs.all hl h
  exact ⟨⟨h1, h4⟩, by simp only [PyData.depth]; omega, by simp only [PyData.bulk]; exact h3⟩
theorem Rs.shaped {dp bk : Nat} {d : D} (h : Rs dp bk d) (h1 : dp ≤ 64) : SeqAt.shaped d = true := pln_shaped h.1.1 (Nat.le_trans h.2.1 h1)
theorem Rq.shaped {dp bk : Nat} {d : D} (h : Rq dp bk d) (h1 : dp ≤ 64) : SeqAt.shaped d = true := pln_shaped h.1 (Nat.le_trans h.2.1 h1)
theorem fdivLD_iff (i j : Int) (d : D) : (fdivLD (.int i) (.int j) = some d) = (j ≠ 0 ∧ .int (i.fdiv j) = d) := by
  show (cI (j ≠ 0) (some (PyData.int (i.fdiv j))) none = some d) = _
  rw [cI_eq]
  exact ite_some _ _ _
@[simp] theorem po_fdivL {X : Exn → En → Prop} {kd : D → En → Prop} (i j : Int) (r : En) : Wp X (M.opt (fdivLD (.int i) (.int j)) r) kd = (j ≠ 0 ∧ kd (.int (i.fdiv j)) r) := by
  simp only [wp_eq]
  rw [qo_opt]
  simp only [fdivLD_iff]
  exact propext ⟨fun ⟨_, ⟨h, e⟩, q⟩ => ⟨h, by rw [e]; exact q⟩, fun ⟨h, q⟩ => ⟨_, ⟨h, rfl⟩, q⟩⟩
end Pu
namespace Pu
open PySem PySem.Spec PyProof.Rows L2
/-! ### a comprehension whose member may raise -/
end Pu
namespace Pu
open PySem PySem.Spec PyProof.Rows L2
variable [TabT]
def keepV : Sl → Sl
  | .v d => .v d
  | _ => .unk
def compLE (is : List Nat) (tg : Tg) (te : M D) : List D → List D → M (List D)
  | [], acc, r => .ok acc r
  | x :: xs, acc, r => match tg x (wipeE r is) with
    | none => .no
    | some r1 => match te r1 with
      | .ok y r3 => if acc.length < 16777216 then compLE is tg te xs (acc ++ [y]) r3 else .no
      | .ex e r3 => .ex e r3
      | .no => .no
def oCompE (src : M (List D)) (is : List Nat) (tg : Tg) (te : M D) : M RV := src.bind fun xs r => if noOwn r is = true then (match compLE is tg te xs [] r with
  | .ok ys q => .ok (.o (.l ys)) (backE r (wipeE q is) is)
  | .ex e _ => .ex e (r.map keepV)
  | .no => .no) else .no
/-! the plain side -/
section
variable {X : Exn → En → Prop}
@[simp] theorem po_compE {kk : RV → En → Prop} (src : M (List D)) (is : List Nat) (tg : Tg) (te : M D) (r : En) : Wp X (oCompE src is tg te r) kk = Wp X (src r) fun xs r => noOwn r is = true ∧ Wp (fun e _ => X e (r.map keepV)) (compLE is tg te xs [] r) fun ys q => kk (.o (.l ys)) (backE r (wipeE q is) is) := by
  simp only [wp_eq]
  show Po X ((src r).bind _) kk = _
  cases src r with
  | no => rfl
  | ex e q => rfl
  | ok xs r =>
    show Po X (if noOwn r is = true then _ else _) kk = (noOwn r is = true ∧ _)
    by_cases h : noOwn r is = true
    · rw [if_pos h]
      cases compLE is tg te xs [] r with
      | ok ys q => exact propext ⟨fun z => ⟨h, z⟩, fun z => z.2⟩
      | ex e q => exact propext ⟨fun z => ⟨h, z⟩, fun z => z.2⟩
      | no => exact propext ⟨fun z => z.elim, fun z => z.2.elim⟩
    · rw [if_neg h]
      exact propext ⟨fun z => z.elim, fun z => absurd z.1 h⟩
end
end Pu
namespace Pu
open PySem PySem.Spec PyProof.Rows L2
/-! ### defs as data: the name of a def told as a thing, a def that a slot holds called -/
end Pu
namespace Pu
open PySem PySem.Spec PyProof.Rows L2
/-! ### repr(x), dicts of flat things within -/
mutual
inductive Gx (h : Heap) : Value → PyData → Prop
  | none : Gx h .none .none
  | bool (b) : Gx h (.bool b) (.bool b)
  | int (i t) : Gx h (.int i t) (.int i)
  | str (x t) : Gx h (.str x t) (.str x)
  | list {a : Addr} {o : Obj} {vs : Array Value} {n : Nat} {xs : List PyData} : h.get? a = some o → o.cls = .type "list" → o.data = .seq vs n → GxAll h vs.toList xs → Gx h (.ref a) (.list xs)
  | tuple {a : Addr} {o : Obj} {vs : Array Value} {n : Nat} {xs : List PyData} : h.get? a = some o → o.cls = .type "tuple" → o.data = .seq vs n → GxAll h vs.toList xs → Gx h (.ref a) (.tuple xs)
  | emp {a : Addr} {o : Obj} {es : Array DictEntry} {n : Nat} : h.get? a = some o → o.cls = .type "dict" → o.data = .dict es n → es.toList = [] → (a == sysModules) = false → Gx h (.ref a) (.dict [])
  | dct {a : Addr} {o : Obj} {es : Array DictEntry} {n : Nat} {kvs : List (PyData × PyData)} : h.get? a = some o → o.cls = .type "dict" → o.data = .dict es n → ReadsAll h (es.toList.map (·.key)) (kvs.map (·.1)) [] → ReadsAll h (es.toList.map (·.val)) (kvs.map (·.2)) [] → (a == sysModules) = false → Gx h (.ref a) (.dict kvs)
inductive GxAll (h : Heap) : List Value → List PyData → Prop
  | nil : GxAll h [] []
  | cons {v : Value} {vs : List Value} {d : PyData} {ds : List PyData} : Gx h v d → GxAll h vs ds → GxAll h (v :: vs) (d :: ds)
end
mutual
theorem Gx.reads {h : Heap} : ∀ {v : Value} {d : PyData}, Gx h v d → ∃ as, Reads h v d as
  | _, _, .none => ⟨_, .none⟩
  | _, _, .bool b => ⟨_, .bool b⟩
  | _, _, .int i t => ⟨_, .int i t⟩
  | _, _, .str x t => ⟨_, .str x t⟩
  | _, _, .list h1 h2 h3 h4 => by
    obtain ⟨as, r⟩ := GxAll.reads h4
    exact ⟨_, .list h1 h2 h3 r⟩
  | _, _, .tuple h1 h2 h3 h4 => by
    obtain ⟨as, r⟩ := GxAll.reads h4
    exact ⟨_, .tuple h1 h2 h3 r⟩
  | _, _, .emp h1 h2 h3 h4 _ => ⟨_, .dict (kvs := []) h1 h2 h3 (by rw [h4]; exact .nil) (by rw [h4]; exact .nil)⟩
  | _, _, .dct h1 h2 h3 h4 h5 _ => ⟨_, .dict h1 h2 h3 h4 h5⟩
theorem GxAll.reads {h : Heap} : ∀ {vs : List Value} {ds : List PyData}, GxAll h vs ds → ∃ as, ReadsAll h vs ds as
  | _, _, .nil => ⟨_, .nil⟩
  | _, _, .cons a b => by
    obtain ⟨as, r⟩ := Gx.reads a
    obtain ⟨bs, q⟩ := GxAll.reads b
    exact ⟨_, .cons r q⟩
end
variable [TabT]
/-! ### dict(list of pairs) as a thing -/
section
variable {X : Cx} {c : Cc}
def pairKD : D → Option (Key × D)
  | .tuple [k, v] => (keyD k).map fun y => (y, v)
  | _ => none
def pairsKD : List D → Option (List (Key × D))
  | [] => some []
  | d :: ds => (pairKD d).bind fun p => (pairsKD ds).map fun ps => p :: ps
def dictI : List D → Option (List (Key × D))
  | [.list xs] => (pairsKD xs).map fun kvs => kvs.foldl (fun acc kv => pK acc kv.1 kv.2) []
  | _ => none
def oDictI (ms : M (List D)) : M RV := ms.bind fun ds => M.opt ((dictI ds).map fun kvs => .o (.d kvs))
@[simp] theorem oDictI_ap (ms : M (List D)) (r : En) : oDictI ms r = (ms r).bind fun ds => M.opt ((dictI ds).map fun kvs => RV.o (.d kvs)) := rfl
end
end Pu
namespace Pu
open PySem PySem.Spec PyProof.Rows L2
/-! ### a lambda with one parameter -/
open LamX
/-! ### the mirror -/
/-! ### told plainly -/
end Pu
namespace Pu
open PySem L2
variable [TabT]
/-! ### the plain side of CoreNA -/
@[simp] theorem asNl_l (ds : List D) : asNl (.l ds) = some (ds.map .v) := rfl
@[simp] theorem asNl_n (its : List Im) : asNl (.n (.l its)) = some its := rfl
@[simp] theorem imOf_v (d : D) : imOf (.v d) = some (.v d) := rfl
@[simp] theorem imOf_l (ds : List D) : imOf (.o (.l ds)) = some (.l ds) := rfl
@[simp] theorem imd_v (d : D) : (Im.v d).data = d := rfl
@[simp] theorem imd_l (ds : List D) : (Im.l ds).data = .list ds := rfl
@[simp] theorem ntd_l (its : List Im) : (Nt.l its).data = some (.list (its.map Im.data)) := rfl
@[simp] theorem ntd_u (its : List Im) : (Nt.u its).data = some (.tuple (its.map Im.data)) := rfl
end Pu
namespace Pu
open PySem PySem.Spec PyProof.Rows L2
variable [TabT]
@[simp] theorem oListR_ap (m : M D) (r : En) : oListR m r = (m r).bind fun d r => (match d with
  | .int n => cI (n ≤ 16777216 ∧ -1000000 ≤ n) (.ok (.o (.l (rngD 0 n.toNat))) r) .no
  | _ => .no) := rfl
@[simp] theorem ksV_l (n : Int) (r : En) : ksV (.inl n) r = some n := rfl
/-! ### what repr needs -/
def Rz (dp bk : Nat) (d : D) : Prop := (d.showable = true ∧ shE d = true ∧ d.leavesShort 60 = true) ∧ d.depth ≤ dp ∧ d.bulk ≤ bk
theorem Rz.int {i : Int} (h : i.natAbs < 2 ^ 50) : Rz 1 0 (.int i) := by
  have q := Rs.int h
  refine ⟨⟨?_, rfl, q.1.2⟩, q.2⟩
  have := PySem.Flt.log2_lt_of (n := i.natAbs) (by decide : 0 < 50) h
  show decide _ = true
  exact decide_eq_true (by omega)
theorem Rz.none : Rz 1 0 .none := ⟨⟨rfl, rfl, rfl⟩, by decide, by decide⟩
theorem Rz.bool (b : Bool) : Rz 1 0 (.bool b) := by cases b <;> exact ⟨⟨rfl, rfl, rfl⟩, by decide, by decide⟩
theorem Rz.emp : Rz 2 0 (.dict []) := ⟨⟨rfl, rfl, rfl⟩, by decide, by decide⟩
theorem Rz.mono {a b a' b' : Nat} {d : D} (h : Rz a b d) (h1 : a ≤ a') (h2 : b ≤ b') : Rz a' b' d := ⟨h.1, Nat.le_trans h.2.1 h1, Nat.le_trans h.2.2 h2⟩
theorem Rz.all {dp bk : Nat} : ∀ {n : Nat} {ds : List D}, ds.length ≤ n → (∀ d ∈ ds, Rz dp bk d) → PyData.showableAll ds = true ∧ shEAll ds = true ∧ PyData.leavesShortAll 60 ds = true ∧ PyData.depthAll ds ≤ dp ∧ PyData.bulkAll ds ≤ (bk + 1) * n
  | _, [], _, _ => ⟨rfl, rfl, rfl, Nat.zero_le _, Nat.zero_le _⟩
  | 0, d :: ds, h, _ => by simp at h
  | n + 1, d :: ds, h, hd => by
    obtain ⟨g1, g2, g3, g4, g5⟩ := Rz.all (dp := dp) (bk := bk) (n := n) (ds := ds) (by simpa using h) fun x hx => hd x (List.mem_cons_of_mem _ hx)
    obtain ⟨⟨f1, f2, f3⟩, f4, f5⟩ := hd d (List.mem_cons_self ..)
    refine ⟨by simp only [PyData.showableAll, f1, g1, Bool.and_self], by simp only [shEAll, f2, g2, Bool.and_self], by simp only [PyData.leavesShortAll, f3, g3, Bool.and_self], by simp only [PyData.depthAll]; omega, ?_⟩
    simp only [PyData.bulkAll]
    rw [Nat.mul_succ]
    omega
theorem Rz.lst {dp bk n : Nat} {ds : List D} (hl : ds.length ≤ n) (h : ∀ d ∈ ds, Rz dp bk d) : Rz (dp + 1) ((bk + 1) * n) (.list ds) := by
  obtain ⟨h1, h2, h3, h4, h5⟩ := Rz.all hl h
  exact ⟨⟨by simpa only [PyData.showable] using h1, by simpa only [shE] using h2, by simpa only [PyData.leavesShort] using h3⟩, by simp only [PyData.depth]; omega, by simp only [PyData.bulk]; exact h5⟩
theorem Rz.tup {dp bk n : Nat} {ds : List D} (hl : ds.length ≤ n) (h : ∀ d ∈ ds, Rz dp bk d) : Rz (dp + 1) ((bk + 1) * n) (.tuple ds) := by
  obtain ⟨h1, h2, h3, h4, h5⟩ := Rz.all hl h
  exact ⟨⟨by simpa only [PyData.showable] using h1, by simpa only [shE] using h2, by simpa only [PyData.leavesShort] using h3⟩, by simp only [PyData.depth]; omega, by simp only [PyData.bulk]; exact h5⟩
end Pu
namespace Pu
open PySem L2
variable [TabT]
/-! ### the plain side of CoreGC, CoreGA, CoreGD -/
section
variable {X : Exn → En → Prop}
@[simp] theorem po_arE_nil {k : Az → En → Prop} (r : En) : Wp X (arE [] r) k = k [] r := by
  unfold arE
  rw [po_ok]
@[simp] theorem po_arE_l {k : Az → En → Prop} (i : Nat) (as : List Ar) (r : En) : Wp X (arE (.l i :: as) r) k = (match getC i r with
    | none => False
    | some _ => Wp X (arE as r) fun xs r' => k (.inl i :: xs) r') := by
  conv => lhs; unfold arE
  cases getC i r with
  | none => simp
  | some c =>
    simp only
    cases arE as r <;> simp
@[simp] theorem po_arE_d {k : Az → En → Prop} (m : M D) (as : List Ar) (r : En) : Wp X (arE (.d m :: as) r) k = Wp X (m r) fun d r1 => Wp X (arE as r1) fun xs r' => k (.inr d :: xs) r' := by
  conv => lhs; unfold arE
  cases m r with
  | no => simp
  | ex e q => simp
  | ok d q =>
    simp only [Re.bind_ok, po_ok]
    cases arE as q <;> simp
/-- a call that lends: what the callee tells of its own slots -/
theorem po_callA {kk : RV → En → Prop} {f : List Sl → Re RV} {as : List Ar} {r : En} (h : Wp X (arE as r) fun xs r' => match azS xs r' with
    | some rs => Wp (fun _ _ => False) (f rs) fun rv z => match azB xs z r' with
      | some r'' => kk rv r''
      | none => False
    | none => False) : Wp X (cCallA f as r) kk := by
  unfold cCallA
  cases hm : arE as r with
  | no => rw [hm, po_no] at h; exact h.elim
  | ex e q =>
    rw [hm, po_ex] at h
    rw [Re.bind_ex, po_ex]
    exact h
  | ok xs q =>
    rw [hm, po_ok] at h
    rw [Re.bind_ok]
    cases hS : azS xs q with
    | none => rw [hS] at h; exact h.elim
    | some rs =>
      rw [hS] at h
      dsimp only at h ⊢
      cases hf : f rs with
      | no => rw [hf] at h; simp at h
      | ex e z => rw [hf] at h; simp at h
      | ok rv z =>
        rw [hf] at h
        simp only [po_ok] at h
        dsimp only
        cases hz : azB xs z q with
        | none => rw [hz] at h; exact h.elim
        | some r'' =>
          rw [hz] at h
          simpa using h
end
end Pu
namespace St
/-! ### vectors, spans, stairs -/
abbrev Ve := Nat → Int
inductive Sp (S : Ve → Prop) : Ve → Prop
  | zero : Sp S (fun _ => 0)
  | step {x r : Ve} (k : Int) : S r → Sp S x → Sp S (fun i => x i + k * r i)
theorem Sp.cong {S : Ve → Prop} {x y : Ve} (h : Sp S x) (e : ∀ i, x i = y i) : Sp S y := by
  have : x = y := funext e
  exact this ▸ h
theorem Sp.of {S : Ve → Prop} {r : Ve} (h : S r) : Sp S r := (Sp.step 1 h .zero).cong fun i => by show (0:Int) + 1 * r i = r i; omega
theorem Sp.add {S : Ve → Prop} {x y : Ve} (hx : Sp S x) (hy : Sp S y) : Sp S (fun i => x i + y i) := by
  induction hy with
  | zero => exact hx.cong fun i => by simp
  | step k hr _ ih => exact (ih.step k hr).cong fun i => by simp [Int.add_assoc]
theorem Sp.smul {S : Ve → Prop} {x : Ve} (c : Int) (hx : Sp S x) : Sp S (fun i => c * x i) := by
  induction hx with
  | zero => exact Sp.zero.cong fun i => by simp
  | step k hr _ ih => exact (ih.step (c * k) hr).cong fun i => by simp [Int.mul_add, Int.mul_assoc]
theorem Sp.subm {S : Ve → Prop} {x y : Ve} (c : Int) (hx : Sp S x) (hy : Sp S y) : Sp S (fun i => x i - c * y i) :=
  (hx.add (hy.smul (-c))).cong fun i => by rw [Int.neg_mul]; rfl
theorem Sp.le {S T : Ve → Prop} (h : ∀ r, S r → Sp T r) {x : Ve} (hx : Sp S x) : Sp T x := by
  induction hx with
  | zero => exact .zero
  | step k hr _ ih => exact ih.add ((h _ hr).smul k)
theorem Sp.mono {S T : Ve → Prop} (h : ∀ r, S r → T r) {x : Ve} (hx : Sp S x) : Sp T x := hx.le fun r hr => .of (h r hr)
theorem Sp.at0 {S : Ve → Prop} {i : Nat} (h : ∀ r, S r → r i = 0) {x : Ve} (hx : Sp S x) : x i = 0 := by
  induction hx with
  | zero => rfl
  | step k hr _ ih => simp [ih, h _ hr]
/-- the span of a list -/
abbrev Sl (l : List Ve) (x : Ve) : Prop := Sp (fun r => r ∈ l) x
theorem sl_nil {x : Ve} : Sl [] x ↔ ∀ i, x i = 0 := by
  constructor
  · intro h i
    exact Sp.at0 (fun r hr => absurd hr (by simp)) h
  · intro h
    exact Sp.zero.cong fun i => (h i).symm
theorem sl_cons {a : Ve} {t : List Ve} {x : Ve} : Sl (a :: t) x ↔ ∃ c : Int, Sl t (fun i => x i - c * a i) := by
  constructor
  · intro h
    induction h with
    | zero => exact ⟨0, Sp.zero.cong fun i => by simp⟩
    | step k hr _ ih =>
      obtain ⟨c, hc⟩ := ih
      rcases List.mem_cons.mp hr with rfl | hr
      · exact ⟨c + k, hc.cong fun i => by simp only [Int.add_mul]; omega⟩
      · exact ⟨c, (hc.step k hr).cong fun i => by simp only []; omega⟩
  · rintro ⟨c, h⟩
    have h1 : Sl (a :: t) (fun i => x i - c * a i) := Sp.mono (fun r hr => List.mem_cons_of_mem _ hr) h
    exact (h1.step c (List.mem_cons_self ..)).cong fun i => by show x i - c * a i + c * a i = x i; omega
/-- the foot of a vector -/
def Ft (r : Ve) (k : Nat) : Prop := (∀ i, i < k → r i = 0) ∧ 0 < r k
theorem Ft.uniq {r : Ve} {j k : Nat} (a : Ft r j) (b : Ft r k) : j = k := by
  rcases Nat.lt_trichotomy j k with h | h | h
  · have := b.1 j h
    have := a.2
    omega
  · exact h
  · have := a.1 k h
    have := b.2
    omega
/-- a stair -/
inductive Stair : List Ve → Prop
  | nil : Stair []
  | cons {a : Ve} {t : List Ve} {k : Nat} : Ft a k → (∀ r ∈ t, ∀ i, i ≤ k → r i = 0) → (∀ r ∈ t, ∀ j, Ft r j → 0 ≤ a j ∧ a j < r j) → Stair t → Stair (a :: t)
theorem Stair.ft {l : List Ve} (h : Stair l) : ∀ r ∈ l, ∃ k, Ft r k := by
  induction h with
  | nil => intro r hr; cases hr
  | cons hk _ _ _ ih =>
    intro r hr
    rcases List.mem_cons.mp hr with rfl | hr
    · exact ⟨_, hk⟩
    · exact ih r hr
/-- what is reached, seen from the first row -/
theorem Stair.red {a : Ve} {t : List Ve} {k : Nat} {x : Ve} (hk : Ft a k) (hz : ∀ r ∈ t, ∀ i, i ≤ k → r i = 0) : Sl (a :: t) x ↔ (a k ∣ x k ∧ Sl t (fun i => x i - (x k).fdiv (a k) * a i)) := by
  rw [sl_cons]
  constructor
  · rintro ⟨c, h⟩
    have h0 : x k - c * a k = 0 := Sp.at0 (fun r hr => hz r hr k (Nat.le_refl _)) h
    have e : x k = a k * c := by rw [Int.mul_comm]; omega
    refine ⟨⟨c, e⟩, ?_⟩
    have q : (x k).fdiv (a k) = c := by rw [e]; exact Int.mul_fdiv_cancel_left _ (by have := hk.2; omega)
    rw [q]
    exact h
  · rintro ⟨_, h⟩
    exact ⟨_, h⟩
/-- a vector of the span that is small at all feet is nought -/
theorem Stair.small {l : List Ve} (h : Stair l) : ∀ {x : Ve}, Sl l x → (∀ r ∈ l, ∀ k, Ft r k → -(r k) < x k ∧ x k < r k) → ∀ i, x i = 0 := by
  induction h with
  | nil => intro x hx _; exact sl_nil.mp hx
  | @cons a t k hk hz hr _ ih =>
    intro x hx hs
    obtain ⟨⟨c, hc⟩, h2⟩ := (Stair.red hk hz).mp hx
    have hb := hs a (List.mem_cons_self ..) k hk
    have hp := hk.2
    have c0 : c = 0 := by
      rcases Int.lt_trichotomy c 0 with h | h | h
      · have h3 : a k * c ≤ a k * (-1) := Int.mul_le_mul_of_nonneg_left (by omega) (by omega)
        omega
      · exact h
      · have h3 : a k * 1 ≤ a k * c := Int.mul_le_mul_of_nonneg_left (by omega) (by omega)
        omega
    rw [c0, Int.mul_zero] at hc
    rw [hc, Int.zero_fdiv] at h2
    exact ih (h2.cong fun i => by simp) fun r hr => hs r (List.mem_cons_of_mem _ hr)
/-- the span of the rest: what is 0 at the first foot -/
theorem Stair.rest {a : Ve} {t : List Ve} {k : Nat} {x : Ve} (hk : Ft a k) (hz : ∀ r ∈ t, ∀ i, i ≤ k → r i = 0) : Sl t x ↔ (Sl (a :: t) x ∧ x k = 0) := by
  constructor
  · intro h
    exact ⟨Sp.mono (fun r hr => List.mem_cons_of_mem _ hr) h, Sp.at0 (fun r hr => hz r hr k (Nat.le_refl _)) h⟩
  · rintro ⟨h, h0⟩
    have := ((Stair.red hk hz).mp h).2
    rw [h0, Int.zero_fdiv] at this
    exact this.cong fun i => by simp
theorem dvd_pos_eq {a b : Int} (ha : 0 < a) (hb : 0 < b) (h1 : a ∣ b) (h2 : b ∣ a) : a = b := Int.le_antisymm (Int.le_of_dvd hb h1) (Int.le_of_dvd ha h2)
theorem Stair.uniq : ∀ {l m : List Ve}, Stair l → Stair m → (∀ x, Sl l x ↔ Sl m x) → l = m := by
  intro l m hl
  induction hl generalizing m with
  | nil =>
    intro hm h
    cases hm with
    | nil => rfl
    | @cons b s j hj _ _ _ =>
      have := (h b).mpr (.of (List.mem_cons_self ..))
      have := sl_nil.mp this j
      have := hj.2
      omega
  | @cons a t k hk hz hr ht ih =>
    intro hm h
    cases hm with
    | nil =>
      have := (h a).mp (.of (List.mem_cons_self ..))
      have := sl_nil.mp this k
      have := hk.2
      omega
    | @cons b s j hj hzj hrj hs =>
      have ha : Sl (b :: s) a := (h a).mp (.of (List.mem_cons_self ..))
      have hb : Sl (a :: t) b := (h b).mpr (.of (List.mem_cons_self ..))
      have e : k = j := by
        have z1 : ∀ i, i < j → a i = 0 := fun i hi => Sp.at0 (fun r hr => by
          rcases List.mem_cons.mp hr with rfl | hr
          · exact hj.1 i hi
          · exact hzj r hr i (by omega)) ha
        have z2 : ∀ i, i < k → b i = 0 := fun i hi => Sp.at0 (fun r hr => by
          rcases List.mem_cons.mp hr with rfl | hr
          · exact hk.1 i hi
          · exact hz r hr i (by omega)) hb
        rcases Nat.lt_trichotomy k j with q | q | q
        · have := z1 k q
          have := hk.2
          omega
        · exact q
        · have := z2 j q
          have := hj.2
          omega
      subst e
      have eq : a k = b k := dvd_pos_eq hk.2 hj.2 ((Stair.red hk hz).mp hb).1 ((Stair.red hj hzj).mp ha).1
      have hts : ∀ x, Sl t x ↔ Sl s x := fun x => by rw [Stair.rest hk hz, Stair.rest hj hzj, h x]
      have ets : t = s := ih hs hts
      subst ets
      have hd : Sl (a :: t) (fun i => a i - 1 * b i) := (Sp.of (List.mem_cons_self ..)).subm 1 hb
      have hd2 : Sl t (fun i => a i - 1 * b i) := (Stair.rest hk hz).mpr ⟨hd, by simp [eq]⟩
      have hzero := ht.small hd2 fun r hr2 q hq => by
        have h1 := hr r hr2 q hq
        have h2 := hrj r hr2 q hq
        constructor <;> omega
      have eab : a = b := funext fun i => by
        have := hzero i
        omega
      rw [eab]
/-! ### pairs of a row and its mixing -/
abbrev P2 := List Int × List Int
def vec (l : List Int) : Ve := fun i => l.getD i 0
def lsl (a b : List Int) (m : Int) : List Int := List.zipWith (fun x y => x - m * y) a b
def less (p q : P2) (m : Int) : P2 := (lsl p.1 q.1 m, lsl p.2 q.2 m)
theorem vec_nil (i : Nat) : vec [] i = 0 := rfl
theorem vec_out {l : List Int} {i : Nat} (h : l.length ≤ i) : vec l i = 0 := by
  unfold vec
  rw [List.getD_eq_getElem?_getD, List.getElem?_eq_none h]
  rfl
theorem vec_get {l : List Int} {i : Nat} (h : i < l.length) : vec l i = l[i] := by
  unfold vec
  rw [List.getD_eq_getElem?_getD, List.getElem?_eq_getElem h]
  rfl
theorem vec_mem {l : List Int} {i : Nat} (h : i < l.length) : vec l i ∈ l := by
  rw [vec_get h]
  exact List.getElem_mem h
theorem vec_ext {a b : List Int} (h : a.length = b.length) (e : ∀ i, vec a i = vec b i) : a = b := List.ext_getElem h fun i h1 h2 => by
  have := e i
  rwa [vec_get h1, vec_get h2] at this
theorem len_lsl {a b : List Int} {m : Int} (h : a.length = b.length) : (lsl a b m).length = a.length := by simp [lsl, h]
theorem vec_lsl : ∀ {a b : List Int} {m : Int}, a.length = b.length → ∀ i, vec (lsl a b m) i = vec a i - m * vec b i
  | [], [], m, _, i => by simp [lsl, vec_nil]
  | x :: a, y :: b, m, h, 0 => rfl
  | x :: a, y :: b, m, h, i + 1 => by
    show vec (lsl a b m) i = vec a i - m * vec b i
    exact vec_lsl (by simpa using h) i
  | [], _ :: _, _, h, _ => by simp at h
  | _ :: _, [], _, h, _ => by simp at h
theorem mem_lsl : ∀ {a b : List Int} {m e : Int}, e ∈ lsl a b m → ∃ x ∈ a, ∃ y ∈ b, e = x - m * y
  | [], _, m, e, h => by simp [lsl] at h
  | _ :: _, [], m, e, h => by simp [lsl] at h
  | x :: a, y :: b, m, e, h => by
    rcases List.mem_cons.mp (show e ∈ (x - m * y) :: lsl a b m from h) with rfl | h
    · exact ⟨x, List.mem_cons_self .., y, List.mem_cons_self .., rfl⟩
    · obtain ⟨x', hx, y', hy, e⟩ := mem_lsl h
      exact ⟨x', List.mem_cons_of_mem _ hx, y', List.mem_cons_of_mem _ hy, e⟩
/-- rows mixed by numbers -/
def dot : List Int → List (List Int) → Ve
  | c :: m, r :: rs => fun i => c * vec r i + dot m rs i
  | _, _ => fun _ => 0
theorem dot_lsl : ∀ {a b : List Int} {m : Int} {rs : List (List Int)}, a.length = b.length → ∀ i, dot (lsl a b m) rs i = dot a rs i - m * dot b rs i
  | [], [], m, rs, _, i => by simp [lsl, dot]
  | x :: a, y :: b, m, [], h, i => by simp [lsl, dot]
  | x :: a, y :: b, m, r :: rs, h, i => by
    show (x - m * y) * vec r i + dot (lsl a b m) rs i = (x * vec r i + dot a rs i) - m * (y * vec r i + dot b rs i)
    rw [dot_lsl (by simpa using h) i, Int.sub_mul, Int.mul_add, Int.mul_assoc]
    omega
  | [], _ :: _, _, _, h, _ => by simp at h
  | _ :: _, [], _, _, h, _ => by simp at h
theorem dot_sp : ∀ (m : List Int) (rs : List (List Int)), Sl (rs.map vec) (dot m rs)
  | [], rs => by
    have : dot [] rs = fun _ => 0 := by cases rs <;> rfl
    rw [this]
    exact .zero
  | c :: m, [] => .zero
  | c :: m, r :: rs => by
    have h := Sp.mono (T := fun x => x ∈ (r :: rs).map vec) (fun x hx => List.mem_cons_of_mem _ hx) (dot_sp m rs)
    exact (h.step c (List.mem_cons_self ..)).cong fun i => by show dot m rs i + c * vec r i = c * vec r i + dot m rs i; omega
theorem dot_zero : ∀ (n : Nat) (rs : List (List Int)) (i : Nat), dot (List.replicate n 0) rs i = 0
  | 0, rs, i => by cases rs <;> rfl
  | n + 1, [], i => by simp [List.replicate_succ, dot]
  | n + 1, r :: rs, i => by
    show 0 * vec r i + dot (List.replicate n 0) rs i = 0
    rw [dot_zero n rs i]
    omega
/-- the row of n numbers with 1 at a place and 0 else -/
def unit (n at' : Nat) : List Int := (List.range n).map fun k => if k = at' then 1 else 0
theorem unit_len (n a : Nat) : (unit n a).length = n := by simp [unit]
theorem unit_succ0 (n : Nat) : unit (n + 1) 0 = 1 :: List.replicate n 0 := by
  apply List.ext_getElem
  · simp [unit]
  · intro i h1 h2
    simp [unit]
    cases i <;> simp
theorem unit_succ1 (n a : Nat) : unit (n + 1) (a + 1) = 0 :: unit n a := by
  apply List.ext_getElem
  · simp [unit]
  · intro i h1 h2
    simp [unit]
    cases i <;> simp
theorem dot_unit : ∀ (rs : List (List Int)) (a : Nat), a < rs.length → ∀ i, dot (unit rs.length a) rs i = vec (rs.getD a []) i
  | [], a, h, i => by simp at h
  | r :: rs, 0, h, i => by
    show dot (unit (rs.length + 1) 0) (r :: rs) i = _
    rw [unit_succ0]
    show 1 * vec r i + dot (List.replicate rs.length 0) rs i = vec r i
    rw [dot_zero]
    omega
  | r :: rs, a + 1, h, i => by
    show dot (unit (rs.length + 1) (a + 1)) (r :: rs) i = _
    rw [unit_succ1]
    show 0 * vec r i + dot (unit rs.length a) rs i = vec (rs.getD a []) i
    rw [dot_unit rs a (by simpa using h) i]
    omega
/-! ### the numbers at a place -/
theorem fdiv_fmod (v f : Int) : v - v.fdiv f * f = v.fmod f := by
  have := Int.mul_fdiv_add_fmod v f
  rw [Int.mul_comm] at this
  omega
theorem fmod_sgn {v f : Int} (h : f ≠ 0) : (0 < f → 0 ≤ v.fmod f ∧ v.fmod f < f) ∧ (f < 0 → f < v.fmod f ∧ v.fmod f ≤ 0) := by
  constructor
  · intro hf
    exact ⟨Int.fmod_nonneg_of_pos _ hf, Int.fmod_lt_of_pos _ hf⟩
  · intro hf
    have e : v.fmod f = -((-v).fmod (-f)) := by
      rw [Int.neg_fmod_neg]
      omega
    have h1 := Int.fmod_nonneg_of_pos (-v) (show 0 < -f by omega)
    have h2 := Int.fmod_lt_of_pos (-v) (show 0 < -f by omega)
    omega
/-- |v // f| times |f| -/
theorem fdiv_abs {v f : Int} (h : f ≠ 0) : (v.fdiv f).natAbs * f.natAbs ≤ v.natAbs + f.natAbs := by
  rw [← Int.natAbs_mul]
  have e := fdiv_fmod v f
  have s := fmod_sgn (v := v) h
  rcases Int.lt_or_gt_of_ne h with hf | hf
  · have := s.2 hf
    omega
  · have := s.1 hf
    omega
theorem fdiv_abs1 {v f : Int} (h : f ≠ 0) : (v.fdiv f).natAbs ≤ v.natAbs + 1 := by
  have h1 := fdiv_abs (v := v) h
  have h2 : 1 ≤ f.natAbs := by omega
  rcases Nat.lt_or_ge (v.natAbs + 1) (v.fdiv f).natAbs with q | q
  · exfalso
    have h3 : (v.natAbs + 2) * f.natAbs ≤ (v.fdiv f).natAbs * f.natAbs := Nat.mul_le_mul_right _ q
    have h4 : v.natAbs * 1 ≤ v.natAbs * f.natAbs := Nat.mul_le_mul_left _ h2
    rw [Nat.add_mul] at h3
    omega
  · exact q
/-! ### gathering at a place -/
abbrev vt (p : P2) (k : Nat) : Int := vec p.1 k
structure GS (rs : List (List Int)) (w n k : Nat) (T : Ve → Prop) (l : List P2) : Prop where
  len : ∀ p ∈ l, p.1.length = w ∧ p.2.length = n
  mx : ∀ p ∈ l, ∀ i, vec p.1 i = dot p.2 rs i
  sp : ∀ x, Sl (l.map fun p => vec p.1) x ↔ T x
  z : ∀ p ∈ l, ∀ i, i < k → vec p.1 i = 0
theorem GS.perm {rs : List (List Int)} {w n k : Nat} {T : Ve → Prop} {l l' : List P2} (h : GS rs w n k T l) (e : ∀ p, p ∈ l' ↔ p ∈ l) : GS rs w n k T l' where
  len := fun p hp => h.len p ((e p).mp hp)
  mx := fun p hp => h.mx p ((e p).mp hp)
  sp := fun x => by
    rw [← h.sp x]
    have q : ∀ y, y ∈ l'.map (fun p => vec p.1) ↔ y ∈ l.map (fun p => vec p.1) := fun y => by
      simp only [List.mem_map]
      constructor
      · rintro ⟨p, h1, h2⟩
        exact ⟨p, (e p).mp h1, h2⟩
      · rintro ⟨p, h1, h2⟩
        exact ⟨p, (e p).mpr h1, h2⟩
    exact ⟨Sp.mono fun r hr => (q r).mp hr, Sp.mono fun r hr => (q r).mpr hr⟩
  z := fun p hp => h.z p ((e p).mp hp)
/-- the members of l' are f, a keeping rest, and the others less so many times f -/
theorem GS.step {rs : List (List Int)} {w n k : Nat} {T : Ve → Prop} {l l' rest oth : List P2} {f : P2} {m : P2 → Int} (h : GS rs w n k T l) (e : ∀ p, p ∈ l ↔ p = f ∨ p ∈ rest ∨ p ∈ oth)
    (e' : ∀ p, p ∈ l' ↔ p = f ∨ p ∈ rest ∨ ∃ q ∈ oth, p = less q f (m q)) : GS rs w n k T l' := by
  have hf : f ∈ l := (e f).mpr (.inl rfl)
  have lf := h.len f hf
  have ln : ∀ q ∈ oth, q.1.length = f.1.length ∧ q.2.length = f.2.length := fun q hq => by
    have := h.len q ((e q).mpr (.inr (.inr hq)))
    omega
  refine ⟨fun p hp => ?_, fun p hp i => ?_, fun x => ?_, fun p hp i hi => ?_⟩
  · rcases (e' p).mp hp with rfl | hp | ⟨q, hq, rfl⟩
    · exact lf
    · exact h.len p ((e p).mpr (.inr (.inl hp)))
    · have l1 := ln q hq
      have l2 := h.len q ((e q).mpr (.inr (.inr hq)))
      exact ⟨(len_lsl l1.1).trans l2.1, (len_lsl l1.2).trans l2.2⟩
  · rcases (e' p).mp hp with rfl | hp | ⟨q, hq, rfl⟩
    · exact h.mx _ hf i
    · exact h.mx p ((e p).mpr (.inr (.inl hp))) i
    · have l1 := ln q hq
      show vec (lsl q.1 f.1 (m q)) i = dot (lsl q.2 f.2 (m q)) rs i
      rw [vec_lsl l1.1, dot_lsl l1.2, h.mx q ((e q).mpr (.inr (.inr hq))), h.mx f hf]
  · rw [← h.sp x]
    constructor
    · refine Sp.le fun r hr => ?_
      obtain ⟨p, hp, rfl⟩ := List.mem_map.mp hr
      have mem : ∀ p ∈ l, Sl (l.map fun p => vec p.1) (vec p.1) := fun p hp => .of (List.mem_map.mpr ⟨p, hp, rfl⟩)
      rcases (e' p).mp hp with rfl | hp | ⟨q, hq, rfl⟩
      · exact mem _ hf
      · exact mem p ((e p).mpr (.inr (.inl hp)))
      · exact ((mem q ((e q).mpr (.inr (.inr hq)))).subm (m q) (mem f hf)).cong fun i => (vec_lsl (ln q hq).1 i).symm
    · refine Sp.le fun r hr => ?_
      obtain ⟨p, hp, rfl⟩ := List.mem_map.mp hr
      have mem : ∀ p ∈ l', Sl (l'.map fun p => vec p.1) (vec p.1) := fun p hp => .of (List.mem_map.mpr ⟨p, hp, rfl⟩)
      have mf := mem f ((e' f).mpr (.inl rfl))
      rcases (e p).mp hp with rfl | hp | hp
      · exact mf
      · exact mem p ((e' p).mpr (.inr (.inl hp)))
      · exact ((mem _ ((e' _).mpr (.inr (.inr ⟨p, hp, rfl⟩)))).subm (-(m p)) mf).cong fun i => by
          show vec (lsl p.1 f.1 (m p)) i - -(m p) * vec f.1 i = vec p.1 i
          rw [vec_lsl (ln p hp).1, Int.neg_mul]
          omega
  · rcases (e' p).mp hp with rfl | hp | ⟨q, hq, rfl⟩
    · exact h.z _ hf i hi
    · exact h.z p ((e p).mpr (.inr (.inl hp))) i hi
    · show vec (lsl q.1 f.1 (m q)) i = 0
      rw [vec_lsl (ln q hq).1, h.z q ((e q).mpr (.inr (.inr hq))) i hi, h.z f hf i hi]
      simp
/-! ### how great the numbers grow -/
abbrev Ent (p : P2) (e : Int) : Prop := e ∈ p.1 ∨ e ∈ p.2
theorem ent_less {p f : P2} {m e : Int} (h : Ent (less p f m) e) : ∃ x y, Ent p x ∧ Ent f y ∧ e = x - m * y := by
  rcases h with h | h
  · obtain ⟨x, hx, y, hy, e⟩ := mem_lsl h
    exact ⟨x, y, .inl hx, .inl hy, e⟩
  · obtain ⟨x, hx, y, hy, e⟩ := mem_lsl h
    exact ⟨x, y, .inr hx, .inr hy, e⟩
theorem abs_sub_mul (x m y : Int) : (x - m * y).natAbs ≤ x.natAbs + m.natAbs * y.natAbs := by
  rw [← Int.natAbs_mul]
  omega
/-- all numbers are at most M; or: same signs s, values at most P, f one of the values -/
def Phase (M : Nat) (k : Nat) (some : List P2) : Prop :=
  (∀ p ∈ some, ∀ e, Ent p e → e.natAbs ≤ M) ∨
  ∃ (s : Int) (P f : Nat), (s = 1 ∨ s = -1) ∧ (∀ p ∈ some, ∃ v : Nat, 0 < v ∧ v ≤ P ∧ vt p k = s * v) ∧ (∃ p ∈ some, vt p k = s * f) ∧ ∀ p ∈ some, ∀ e, Ent p e → e.natAbs ^ 2 * P ^ 2 * f ≤ 9 * M ^ 5
theorem sq_le {a b : Nat} (h : a ≤ b) : a ^ 2 ≤ b ^ 2 := Nat.pow_le_pow_left h 2
theorem exists_min {α : Type} (f : α → Nat) : ∀ (l : List α), l ≠ [] → ∃ a ∈ l, ∀ b ∈ l, f a ≤ f b
  | [], h => absurd rfl h
  | [a], _ => ⟨a, List.mem_cons_self .., fun b hb => by rw [List.mem_singleton.mp hb]; exact Nat.le_refl _⟩
  | a :: b :: t, _ => by
    obtain ⟨c, hc, h⟩ := exists_min f (b :: t) (by simp)
    by_cases q : f a ≤ f c
    · refine ⟨a, List.mem_cons_self .., fun d hd => ?_⟩
      rcases List.mem_cons.mp hd with rfl | hd
      · exact Nat.le_refl _
      · exact Nat.le_trans q (h d hd)
    · refine ⟨c, List.mem_cons_of_mem _ hc, fun d hd => ?_⟩
      rcases List.mem_cons.mp hd with rfl | hd
      · omega
      · exact h d hd
/-- (1 + q)^2 f r is at most (q f + r)^2 -/
theorem key_ineq {q f r : Nat} (hq : 1 ≤ q) (hr : r ≤ f) : (1 + q) ^ 2 * (f * r) ≤ (q * f + r) ^ 2 := by
  obtain ⟨d, rfl⟩ := Nat.exists_eq_add_of_le hr
  obtain ⟨c, rfl⟩ := Nat.exists_eq_add_of_le hq
  -- (1+q)^2 (r+d) r + d (q^2 (r+d) - r) = (q (r+d) + r)^2
  have e : (((1 + c) * (r + d) + r) ^ 2 : Int) = (1 + (1 + c)) ^ 2 * ((r + d) * r) + d * ((1 + c) ^ 2 * (r + d) - r) := by
    generalize (c : Int) = c
    generalize (r : Int) = r
    generalize (d : Int) = d
    simp only [Int.pow_succ, Int.pow_zero, Int.mul_add, Int.add_mul, Int.mul_sub, Int.sub_mul, Int.one_mul, Int.mul_one]
    have h1 : c * r = r * c := Int.mul_comm ..
    have h2 : d * r = r * d := Int.mul_comm ..
    have h3 : c * d = d * c := Int.mul_comm ..
    simp only [Int.mul_assoc, Int.mul_comm, Int.mul_left_comm]
    omega
  have nn : (0 : Int) ≤ (d : Int) * ((1 + (c : Int)) ^ 2 * ((r : Int) + d) - r) := by
    refine Int.mul_nonneg (Int.natCast_nonneg _) ?_
    have h1 : (1 : Int) ≤ (1 + (c : Int)) ^ 2 := by
      have : (1 : Int) ≤ 1 + c := by omega
      have := Int.mul_le_mul this this (by omega) (by omega)
      simpa [Int.pow_succ] using this
    have h2 : (1 : Int) * ((r : Int) + d) ≤ (1 + (c : Int)) ^ 2 * ((r : Int) + d) := Int.mul_le_mul_of_nonneg_right h1 (by omega)
    omega
  have fin : (((1 + (1 + c)) ^ 2 * ((r + d) * r) : Nat) : Int) ≤ (((1 + c) * (r + d) + r) ^ 2 : Nat) := by
    push_cast
    omega
  exact Int.ofNat_le.mp fin
theorem vt_less {q f : P2} {m : Int} (h : q.1.length = f.1.length) (k : Nat) : vt (less q f m) k = vt q k - m * vt f k := vec_lsl h k
theorem vt_ent {p : P2} {k : Nat} (h : vt p k ≠ 0) : Ent p (vt p k) := by
  refine .inl (vec_mem ?_)
  rcases Nat.lt_or_ge k p.1.length with q | q
  · exact q
  · exact absurd (vec_out q) h
theorem fdiv_s {s : Int} {v f : Nat} (hs : s = 1 ∨ s = -1) (hf : 0 < f) : (s * v).fdiv (s * f) = ((v / f : Nat) : Int) := by
  rcases hs with rfl | rfl
  · simp only [Int.one_mul]
    rw [Int.fdiv_eq_ediv_of_nonneg _ (by omega)]
    rfl
  · rw [Int.neg_mul, Int.one_mul, Int.neg_mul, Int.one_mul, Int.neg_fdiv_neg, Int.fdiv_eq_ediv_of_nonneg _ (by omega)]
    rfl
theorem abs_s {s : Int} {v : Nat} (hs : s = 1 ∨ s = -1) : (s * v).natAbs = v := by
  rcases hs with rfl | rfl <;> omega
theorem Phase.step {M k : Nat} {some oth some' : List P2} {f : P2} (hM : 1 ≤ M) (h : Phase M k some) (hf : f ∈ some) (hmin : ∀ p ∈ some, (vt f k).natAbs ≤ (vt p k).natAbs) (hnz : ∀ p ∈ some, vt p k ≠ 0) (ho : ∀ q ∈ oth, q ∈ some) (hl : ∀ q ∈ oth, q.1.length = f.1.length)
    (hs' : ∀ p, p ∈ some' ↔ p = f ∨ ∃ q ∈ oth, p = less q f ((vt q k).fdiv (vt f k)) ∧ vt p k ≠ 0) :
    Phase M k some' ∧ ∀ q ∈ oth, vt (less q f ((vt q k).fdiv (vt f k))) k = 0 → ∀ e, Ent (less q f ((vt q k).fdiv (vt f k))) e → e.natAbs ^ 2 ≤ 36 * M ^ 5 := by
  have f0 : vt f k ≠ 0 := hnz f hf
  have res : ∀ q ∈ oth, vt (less q f ((vt q k).fdiv (vt f k))) k = (vt q k).fmod (vt f k) := fun q hq => by rw [vt_less (hl q hq), fdiv_fmod]
  rcases h with h | ⟨s, P, g, hs, hv, ⟨p0, hp0, hg⟩, hb⟩
  · generalize hF : (vt f k).natAbs = F
    have F1 : 1 ≤ F := by omega
    have FM : F ≤ M := by
      rw [← hF]
      exact h f hf _ (vt_ent f0)
    obtain ⟨s, hs, hsf⟩ : ∃ s : Int, (s = 1 ∨ s = -1) ∧ vt f k = s * F := by
      rcases Int.lt_or_gt_of_ne f0 with q | q
      · exact ⟨-1, .inr rfl, by omega⟩
      · exact ⟨1, .inl rfl, by omega⟩
    have vM : ∀ q ∈ oth, (vt q k).natAbs ≤ M := fun q hq => h q (ho q hq) _ (vt_ent (hnz q (ho q hq)))
    constructor
    · refine .inr ⟨s, F, F, hs, fun p hp => ?_, ⟨f, (hs' f).mpr (.inl rfl), hsf⟩, fun p hp e he => ?_⟩
      · rcases (hs' p).mp hp with rfl | ⟨q, hq, rfl, h2⟩
        · exact ⟨F, F1, Nat.le_refl _, hsf⟩
        · rw [res q hq] at h2 ⊢
          have sg := fmod_sgn (v := vt q k) f0
          refine ⟨((vt q k).fmod (vt f k)).natAbs, by omega, ?_, ?_⟩
          · rcases Int.lt_or_gt_of_ne f0 with q | q
            · have := sg.2 q
              omega
            · have := sg.1 q
              omega
          · rcases hs with rfl | rfl
            · have := sg.1 (by omega)
              omega
            · have := sg.2 (by omega)
              omega
      · have key : e.natAbs * F ≤ 3 * M ^ 2 := by
          rcases (hs' p).mp hp with rfl | ⟨q, hq, rfl, h2⟩
          · have h1 : e.natAbs * F ≤ M * M := Nat.mul_le_mul (h _ hf e he) FM
            have : M ^ 2 = M * M := Nat.pow_two M
            omega
          · obtain ⟨x, y, hx, hy, rfl⟩ := ent_less he
            have b1 := h q (ho q hq) x hx
            have b2 := h f hf y hy
            have b3 := fdiv_abs (v := vt q k) f0
            rw [hF] at b3
            have b4 := abs_sub_mul x ((vt q k).fdiv (vt f k)) y
            have b5 := vM q hq
            generalize ((vt q k).fdiv (vt f k)).natAbs = m at b3 b4
            have c1 : (x - (vt q k).fdiv (vt f k) * y).natAbs * F ≤ (x.natAbs + m * y.natAbs) * F := Nat.mul_le_mul_right _ b4
            have c2 : x.natAbs * F ≤ M * M := Nat.mul_le_mul b1 FM
            have c3 : (m * F) * y.natAbs ≤ (M + M) * M := Nat.mul_le_mul (by omega) b2
            have c4 : (x.natAbs + m * y.natAbs) * F = x.natAbs * F + (m * F) * y.natAbs := by grind
            have c5 : (M + M) * M = 2 * (M * M) := by grind
            have c6 : M ^ 2 = M * M := Nat.pow_two M
            omega
        calc e.natAbs ^ 2 * F ^ 2 * F = (e.natAbs * F) ^ 2 * F := by grind
          _ ≤ (3 * M ^ 2) ^ 2 * M := Nat.mul_le_mul (sq_le key) FM
          _ = 9 * M ^ 5 := by grind
    · intro q hq h0 e he
      obtain ⟨x, y, hx, hy, rfl⟩ := ent_less he
      have b1 := h q (ho q hq) x hx
      have b2 := h f hf y hy
      have b4 := abs_sub_mul x ((vt q k).fdiv (vt f k)) y
      have b5 := vM q hq
      rw [vt_less (hl q hq)] at h0
      have e1 : vt q k = (vt q k).fdiv (vt f k) * vt f k := by omega
      have e2 : (vt q k).natAbs = ((vt q k).fdiv (vt f k)).natAbs * (vt f k).natAbs := by rw [← Int.natAbs_mul, ← e1]
      generalize ((vt q k).fdiv (vt f k)).natAbs = m at b4 e2
      rw [hF] at e2
      have b6 : m * 1 ≤ m * F := Nat.mul_le_mul_left _ F1
      have b7 : m * y.natAbs ≤ M * M := Nat.mul_le_mul (by omega) b2
      have b8 : M * 1 ≤ M * M := Nat.mul_le_mul_left _ hM
      have b9 : (x - (vt q k).fdiv (vt f k) * y).natAbs ≤ 2 * (M * M) := by omega
      refine Nat.le_trans (sq_le b9) ?_
      calc (2 * (M * M)) ^ 2 = 4 * M ^ 4 * 1 := by grind
        _ ≤ 4 * M ^ 4 * (9 * M) := Nat.mul_le_mul_left _ (by omega)
        _ = 36 * M ^ 5 := by grind
  · obtain ⟨F, F1, FP, hF⟩ := hv f hf
    have Fg : F ≤ g := by
      have := hmin p0 hp0
      rw [hF, hg, abs_s hs, abs_s hs] at this
      exact this
    have E : ∀ p ∈ some, ∀ x, Ent p x → ∀ q ∈ some, ∀ y, Ent q y → ∃ z : Nat, x.natAbs ≤ z ∧ y.natAbs ≤ z ∧ z ^ 2 * P ^ 2 * g ≤ 9 * M ^ 5 := fun p hp x hx q hq y hy => by
      rcases Nat.le_total x.natAbs y.natAbs with c | c
      · exact ⟨y.natAbs, c, Nat.le_refl _, hb q hq y hy⟩
      · exact ⟨x.natAbs, Nat.le_refl _, c, hb p hp x hx⟩
    have rd : ∀ q ∈ oth, ∃ v : Nat, vt q k = s * v ∧ F ≤ v ∧ v ≤ P ∧ (vt q k).fdiv (vt f k) = ((v / F : Nat) : Int) ∧ vt (less q f ((vt q k).fdiv (vt f k))) k = s * (v % F : Nat) := fun q hq => by
      obtain ⟨v, v1, v2, v3⟩ := hv q (ho q hq)
      have := hmin q (ho q hq)
      rw [hF, v3, abs_s hs, abs_s hs] at this
      have e : (vt q k).fdiv (vt f k) = ((v / F : Nat) : Int) := by rw [v3, hF, fdiv_s hs F1]
      refine ⟨v, v3, this, v2, e, ?_⟩
      rw [vt_less (hl q hq), e, v3, hF]
      have d : ((F * (v / F) + v % F : Nat) : Int) = (v : Int) := congrArg Int.ofNat (Nat.div_add_mod v F)
      rw [Int.natCast_add, Int.natCast_mul] at d
      rw [← d]
      have c1 : ((v / F : Nat) : Int) * (s * (F : Int)) = s * ((F : Int) * ((v / F : Nat) : Int)) := by grind
      rw [d, c1, ← d, Int.mul_add]
      have : ((F * (v / F) + v % F : Nat) : Int) = (F : Int) * ((v / F : Nat) : Int) + ((v % F : Nat) : Int) := by rw [Int.natCast_add, Int.natCast_mul]
      omega
    have bd : ∀ q ∈ oth, ∀ v : Nat, (vt q k).fdiv (vt f k) = ((v / F : Nat) : Int) → ∀ e, Ent (less q f ((vt q k).fdiv (vt f k))) e → ∃ z : Nat, e.natAbs ≤ (1 + v / F) * z ∧ z ^ 2 * P ^ 2 * g ≤ 9 * M ^ 5 := fun q hq v hd e he => by
      obtain ⟨x, y, hx, hy, rfl⟩ := ent_less he
      obtain ⟨z, z1, z2, z3⟩ := E q (ho q hq) x hx f hf y hy
      refine ⟨z, ?_, z3⟩
      have b4 := abs_sub_mul x ((vt q k).fdiv (vt f k)) y
      rw [hd] at b4 ⊢
      have b5 : (v / F) * y.natAbs ≤ (v / F) * z := Nat.mul_le_mul_left _ z2
      rw [Nat.add_mul, Nat.one_mul]
      simp only [Int.natAbs_natCast] at b4
      omega
    constructor
    · obtain ⟨p1, hp1, hm1⟩ := exists_min (fun p => (vt p k).natAbs) some' (fun z => by
        have := (hs' f).mpr (.inl rfl)
        rw [z] at this
        cases this)
      have sg : ∀ p ∈ some', ∃ v : Nat, 0 < v ∧ v ≤ F ∧ vt p k = s * v := fun p hp => by
        rcases (hs' p).mp hp with rfl | ⟨q, hq, rfl, h2⟩
        · exact ⟨F, F1, Nat.le_refl _, hF⟩
        · obtain ⟨v, _, _, _, _, r4⟩ := rd q hq
          rw [r4] at h2 ⊢
          refine ⟨v % F, ?_, Nat.le_of_lt (Nat.mod_lt _ F1), rfl⟩
          rcases Nat.eq_zero_or_pos (v % F) with c | c
          · rw [c] at h2
            simp at h2
          · exact c
      obtain ⟨g', g1, g2, g3⟩ := sg p1 hp1
      have gm : ∀ p ∈ some', ∀ v : Nat, vt p k = s * v → g' ≤ v := fun p hp v e => by
        have := hm1 p hp
        rw [g3, e, abs_s hs, abs_s hs] at this
        exact this
      refine .inr ⟨s, F, g', hs, sg, ⟨p1, hp1, g3⟩, fun p hp e he => ?_⟩
      rcases (hs' p).mp hp with rfl | ⟨q, hq, rfl, h2⟩
      · exact Nat.le_trans (Nat.mul_le_mul (Nat.mul_le_mul_left _ (sq_le FP)) (Nat.le_trans g2 Fg)) (hb _ hf e he)
      · obtain ⟨v, r1, r2, r3, r4, r5⟩ := rd q hq
        obtain ⟨z, z1, z2⟩ := bd q hq v r4 e he
        have r6 := gm _ hp _ r5
        have q1 : 1 ≤ v / F := Nat.div_pos r2 F1
        have ki := key_ineq (q := v / F) (f := F) (r := v % F) q1 (Nat.le_of_lt (Nat.mod_lt _ F1))
        have dv : v / F * F + v % F = v := by rw [Nat.mul_comm]; exact Nat.div_add_mod v F
        rw [dv] at ki
        calc e.natAbs ^ 2 * F ^ 2 * g' ≤ ((1 + v / F) * z) ^ 2 * F ^ 2 * (v % F) := Nat.mul_le_mul (Nat.mul_le_mul_right _ (sq_le z1)) r6
          _ = z ^ 2 * ((1 + v / F) ^ 2 * (F * (v % F))) * F := by grind
          _ ≤ z ^ 2 * P ^ 2 * g := Nat.mul_le_mul (Nat.mul_le_mul_left _ (Nat.le_trans ki (sq_le r3))) Fg
          _ ≤ 9 * M ^ 5 := z2
    · intro q hq h0 e he
      obtain ⟨v, r1, r2, r3, r4, r5⟩ := rd q hq
      obtain ⟨z, z1, z2⟩ := bd q hq v r4 e he
      rw [r5] at h0
      have m0 : v % F = 0 := by
        have := congrArg Int.natAbs h0
        rw [abs_s hs] at this
        simpa using this
      have q1 : 1 ≤ v / F := Nat.div_pos r2 F1
      have dv : v / F * F = v := by
        have := Nat.div_add_mod v F
        rw [Nat.mul_comm] at this
        omega
      have c1 : v / F * 1 ≤ v / F * F := Nat.mul_le_mul_left _ F1
      have c2 : 1 + v / F ≤ 2 * P := by omega
      have c3 : e.natAbs ≤ 2 * P * z := Nat.le_trans z1 (Nat.mul_le_mul_right _ c2)
      calc e.natAbs ^ 2 ≤ (2 * P * z) ^ 2 := sq_le c3
        _ = 4 * (z ^ 2 * P ^ 2 * 1) := by grind
        _ ≤ 4 * (z ^ 2 * P ^ 2 * g) := Nat.mul_le_mul_left _ (Nat.mul_le_mul_left _ (by omega))
        _ ≤ 4 * (9 * M ^ 5) := Nat.mul_le_mul_left _ z2
        _ = 36 * M ^ 5 := by omega
def Bd (b : Nat) (l : List P2) : Prop := ∀ p ∈ l, ∀ e, Ent p e → e.natAbs < 2 ^ b
abbrev up (b : Nat) : Nat := (5 * b + 7) / 2
theorem bd_sq {b e : Nat} (h : e ^ 2 ≤ 36 * (2 ^ b) ^ 5) : e < 2 ^ up b := by
  have h1 : 36 * (2 ^ b) ^ 5 < 2 ^ (5 * b + 6) := by
    rw [← Nat.pow_mul, Nat.pow_add, Nat.mul_comm b 5, Nat.mul_comm (2 ^ (5 * b))]
    exact Nat.mul_lt_mul_of_pos_right (by decide) (Nat.pow_pos (by decide))
  have h2 : 2 ^ (5 * b + 6) ≤ (2 ^ up b) ^ 2 := by
    rw [← Nat.pow_mul]
    exact Nat.pow_le_pow_right (by decide) (by unfold up; omega)
  rcases Nat.lt_or_ge e (2 ^ up b) with q | q
  · exact q
  · have := sq_le q
    omega
theorem Phase.sq {M k : Nat} {some : List P2} (hM : 1 ≤ M) (h : Phase M k some) : ∀ p ∈ some, ∀ e, Ent p e → e.natAbs ^ 2 ≤ 36 * M ^ 5 := by
  intro p hp e he
  rcases h with h | ⟨s, P, g, hs, hv, ⟨p0, hp0, hg⟩, hb⟩
  · have := sq_le (h p hp e he)
    have h3 : M ^ 2 * 1 ≤ M ^ 2 * (36 * M ^ 3) := Nat.mul_le_mul_left _ (by
      have := Nat.pow_pos (n := 3) hM
      omega)
    have h4 : M ^ 2 * (36 * M ^ 3) = 36 * M ^ 5 := by grind
    omega
  · have := hb p hp e he
    obtain ⟨v, v1, v2, _⟩ := hv p hp
    obtain ⟨v', v1', _, e2⟩ := hv p0 hp0
    have g1 : 1 ≤ g := by
      rcases hs with rfl | rfl <;> omega
    have p1 : 1 ≤ P ^ 2 * g := Nat.mul_pos (Nat.pow_pos (by omega)) g1
    have : e.natAbs ^ 2 * 1 ≤ e.natAbs ^ 2 * (P ^ 2 * g) := Nat.mul_le_mul_left _ p1
    have c : e.natAbs ^ 2 * (P ^ 2 * g) = e.natAbs ^ 2 * P ^ 2 * g := by grind
    omega
/-- under way: some with a number at k, rest with 0 there -/
structure GI (rs : List (List Int)) (w n k b : Nat) (T : Ve → Prop) (some rest : List P2) : Prop where
  gs : GS rs w n k T (some ++ rest)
  nz : ∀ p ∈ some, vt p k ≠ 0
  r0 : ∀ p ∈ rest, vt p k = 0
  ph : Phase (2 ^ b) k some
  br : ∀ p ∈ rest, ∀ e, Ent p e → e.natAbs ^ 2 ≤ 36 * (2 ^ b) ^ 5
theorem GI.bd {rs : List (List Int)} {w n k b : Nat} {T : Ve → Prop} {some rest : List P2} (h : GI rs w n k b T some rest) : Bd (up b) (some ++ rest) := fun p hp e he => by
  rcases List.mem_append.mp hp with hp | hp
  · exact bd_sq (h.ph.sq (Nat.pow_pos (by decide)) p hp e he)
  · exact bd_sq (h.br p hp e he)
theorem GI.start {rs : List (List Int)} {w n k b : Nat} {T : Ve → Prop} {l : List P2} (h : GS rs w n k T l) (hb : Bd b l) : GI rs w n k b T (l.filter fun p => decide (vt p k ≠ 0)) (l.filter fun p => decide (vt p k = 0)) where
  gs := h.perm fun p => by
    simp only [List.mem_append, List.mem_filter, decide_eq_true_eq]
    constructor
    · rintro (h | h) <;> exact h.1
    · intro hp
      by_cases q : vt p k = 0
      · exact .inr ⟨hp, q⟩
      · exact .inl ⟨hp, q⟩
  nz := fun p hp => by simpa using (List.mem_filter.mp hp).2
  r0 := fun p hp => by simpa using (List.mem_filter.mp hp).2
  ph := .inl fun p hp e he => Nat.le_of_lt (hb p (List.mem_filter.mp hp).1 e he)
  br := fun p hp e he => by
    have h1 : Phase (2 ^ b) k l := .inl fun p hp e he => Nat.le_of_lt (hb p hp e he)
    exact h1.sq (Nat.pow_pos (by decide)) p (List.mem_filter.mp hp).1 e he
abbrev lss (k : Nat) (f : P2) (q : P2) : P2 := less q f ((vt q k).fdiv (vt f k))
theorem GI.step {rs : List (List Int)} {w n k b : Nat} {T : Ve → Prop} {some rest oth : List P2} {f : P2} (h : GI rs w n k b T some rest) (hf : f ∈ some) (hmin : ∀ p ∈ some, (vt f k).natAbs ≤ (vt p k).natAbs) (ho : ∀ p, p ∈ some ↔ p = f ∨ p ∈ oth) :
    GI rs w n k b T (f :: (oth.map (lss k f)).filter fun p => decide (vt p k ≠ 0)) (rest ++ (oth.map (lss k f)).filter fun p => decide (vt p k = 0)) := by
  have hl : ∀ q ∈ oth, q.1.length = f.1.length := fun q hq => by
    have h1 := h.gs.len q (List.mem_append_left _ ((ho q).mpr (.inr hq)))
    have h2 := h.gs.len f (List.mem_append_left _ hf)
    omega
  have st := Phase.step (some' := f :: (oth.map (lss k f)).filter fun p => decide (vt p k ≠ 0)) (Nat.pow_pos (by decide)) h.ph hf hmin h.nz (fun q hq => (ho q).mpr (.inr hq)) hl fun p => by
    simp only [List.mem_cons, List.mem_filter, List.mem_map, decide_eq_true_eq]
    constructor
    · rintro (h | ⟨⟨q, h1, h2⟩, h3⟩)
      · exact .inl h
      · exact .inr ⟨q, h1, h2.symm, h3⟩
    · rintro (h | ⟨q, h1, h2, h3⟩)
      · exact .inl h
      · exact .inr ⟨⟨q, h1, h2.symm⟩, h3⟩
  refine ⟨h.gs.step (f := f) (rest := rest) (oth := oth) (m := fun q => (vt q k).fdiv (vt f k)) (fun p => ?_) (fun p => ?_), fun p hp => ?_, fun p hp => ?_, st.1, fun p hp e he => ?_⟩
  · rw [List.mem_append, ho]
    constructor
    · rintro ((h | h) | h)
      · exact .inl h
      · exact .inr (.inr h)
      · exact .inr (.inl h)
    · rintro (h | h | h)
      · exact .inl (.inl h)
      · exact .inr h
      · exact .inl (.inr h)
  · simp only [List.mem_append, List.mem_cons, List.mem_filter, List.mem_map, decide_eq_true_eq]
    constructor
    · rintro ((h | ⟨⟨q, h1, h2⟩, h3⟩) | (h | ⟨⟨q, h1, h2⟩, h3⟩))
      · exact .inl h
      · exact .inr (.inr ⟨q, h1, h2.symm⟩)
      · exact .inr (.inl h)
      · exact .inr (.inr ⟨q, h1, h2.symm⟩)
    · rintro (h | h | ⟨q, h1, h2⟩)
      · exact .inl (.inl h)
      · exact .inr (.inl h)
      · by_cases c : vt p k = 0
        · exact .inr (.inr ⟨⟨q, h1, h2.symm⟩, c⟩)
        · exact .inl (.inr ⟨⟨q, h1, h2.symm⟩, c⟩)
  · rcases List.mem_cons.mp hp with rfl | hp
    · exact h.nz _ hf
    · simpa using (List.mem_filter.mp hp).2
  · rcases List.mem_append.mp hp with hp | hp
    · exact h.r0 p hp
    · simpa using (List.mem_filter.mp hp).2
  · rcases List.mem_append.mp hp with hp | hp
    · exact h.br p hp e he
    · obtain ⟨h1, h2⟩ := List.mem_filter.mp hp
      obtain ⟨q, hq, rfl⟩ := List.mem_map.mp h1
      exact st.2 q hq (by simpa using h2) e he
/-- the measure -/
def msr (k : Nat) (l : List P2) : Nat := (l.map fun p => (vt p k).natAbs).sum
theorem msr_filter (k : Nat) (P : P2 → Bool) : ∀ l : List P2, msr k (l.filter P) ≤ msr k l
  | [] => Nat.le_refl _
  | p :: l => by
    have := msr_filter k P l
    by_cases q : P p = true
    · rw [List.filter_cons_of_pos q]
      show (vt p k).natAbs + msr k (l.filter P) ≤ (vt p k).natAbs + msr k l
      omega
    · rw [List.filter_cons_of_neg q]
      show msr k (l.filter P) ≤ (vt p k).natAbs + msr k l
      omega
theorem msr_less {k : Nat} {f : P2} (f0 : vt f k ≠ 0) : ∀ {oth : List P2}, oth ≠ [] → (∀ q ∈ oth, q.1.length = f.1.length ∧ (vt f k).natAbs ≤ (vt q k).natAbs) → msr k (oth.map (lss k f)) < msr k oth
  | [], h, _ => absurd rfl h
  | q :: t, _, h => by
    have hq := h q (List.mem_cons_self ..)
    have h1 : (vt (lss k f q) k).natAbs < (vt q k).natAbs := by
      rw [vt_less hq.1, fdiv_fmod]
      have := fmod_sgn (v := vt q k) f0
      omega
    show (vt (lss k f q) k).natAbs + msr k (t.map (lss k f)) < (vt q k).natAbs + msr k t
    cases t with
    | nil => exact Nat.add_lt_add_right h1 _
    | cons q2 t =>
      have := msr_less f0 (oth := q2 :: t) (by simp) fun p hp => h p (List.mem_cons_of_mem _ hp)
      omega
/-- a stair, made small at the foot of a row put behind it -/
theorem Stair.snoc {k : Nat} {f : Ve} (hf : Ft f k) : ∀ {l : List Ve}, Stair l → (∀ r ∈ l, ∃ j, j < k ∧ Ft r j) → ∀ (g : Ve → Ve), (∀ r ∈ l, ∃ c : Int, ∀ i, g r i = r i - c * f i) → (∀ r ∈ l, 0 ≤ g r k ∧ g r k < f k) → Stair (l.map g ++ [f]) := by
  intro l hl
  induction hl with
  | nil =>
    intro _ g _ _
    exact .cons hf (fun r hr => by cases hr) (fun r hr => by cases hr) .nil
  | @cons a t j hj hz hsm ht ih =>
    intro hlt g hg hk
    have f0 : ∀ i, i < k → f i = 0 := hf.1
    obtain ⟨j', hj'1, hj'2⟩ := hlt a (List.mem_cons_self ..)
    obtain rfl := hj.uniq hj'2
    have same : ∀ r ∈ a :: t, ∀ i, i < k → g r i = r i := fun r hr i hi => by
      obtain ⟨c, hc⟩ := hg r hr
      rw [hc, f0 i hi]
      simp
    have ih2 := ih (fun r hr => hlt r (List.mem_cons_of_mem _ hr)) g (fun r hr => hg r (List.mem_cons_of_mem _ hr)) (fun r hr => hk r (List.mem_cons_of_mem _ hr))
    show Stair (g a :: (t.map g ++ [f]))
    have ha := same a (List.mem_cons_self ..)
    refine .cons (k := j) ⟨fun i hi => ?_, ?_⟩ (fun r hr i hi => ?_) (fun r hr q hq => ?_) ih2
    · rw [ha i (by omega)]
      exact hj.1 i hi
    · rw [ha j hj'1]
      exact hj.2
    · rcases List.mem_append.mp hr with hr | hr
      · obtain ⟨r', h1, rfl⟩ := List.mem_map.mp hr
        rw [same r' (List.mem_cons_of_mem _ h1) i (by omega)]
        exact hz r' h1 i hi
      · rw [List.mem_singleton.mp hr]
        exact f0 i (by omega)
    · rcases List.mem_append.mp hr with hr' | hr'
      · obtain ⟨r', h1, rfl⟩ := List.mem_map.mp hr'
        obtain ⟨q', h2, h3⟩ := hlt r' (List.mem_cons_of_mem _ h1)
        have sm := same r' (List.mem_cons_of_mem _ h1)
        have hq' : Ft (g r') q' := ⟨fun i hi => by rw [sm i (by omega)]; exact h3.1 i hi, by rw [sm q' h2]; exact h3.2⟩
        obtain rfl := hq.uniq hq'
        rw [ha q h2, sm q h2]
        exact hsm r' h1 q h3
      · rw [List.mem_singleton.mp hr'] at hq ⊢
        obtain rfl := hq.uniq hf
        exact hk a (List.mem_cons_self ..)
/-- the rows done, the pairs left, ahead of column k -/
structure DI (rs : List (List Int)) (w n k b c : Nat) (T : Ve → Prop) (done left : List P2) : Prop where
  len : ∀ p ∈ done ++ left, p.1.length = w ∧ p.2.length = n
  mx : ∀ p ∈ done ++ left, ∀ i, vec p.1 i = dot p.2 rs i
  sp : ∀ x, Sl ((done ++ left).map fun p => vec p.1) x ↔ T x
  zl : ∀ p ∈ left, ∀ i, i < k → vec p.1 i = 0
  bl : Bd b left
  bd : Bd c done
  st : Stair (done.map fun p => vec p.1)
  ft : ∀ p ∈ done, ∃ j, j < k ∧ Ft (vec p.1) j
theorem DI.gs {rs : List (List Int)} {w n k b c : Nat} {T : Ve → Prop} {done left : List P2} (h : DI rs w n k b c T done left) : GS rs w n k (Sl (left.map fun p => vec p.1)) left where
  len := fun p hp => h.len p (List.mem_append_right _ hp)
  mx := fun p hp => h.mx p (List.mem_append_right _ hp)
  sp := fun x => Iff.rfl
  z := h.zl
theorem sl_app {a b b' : List Ve} (h : ∀ x, Sl b x ↔ Sl b' x) (x : Ve) : Sl (a ++ b) x ↔ Sl (a ++ b') x := by
  have key : ∀ b b' : List Ve, (∀ x, Sl b x ↔ Sl b' x) → ∀ x, Sl (a ++ b) x → Sl (a ++ b') x := fun b b' h x => Sp.le fun r hr => by
    rcases List.mem_append.mp hr with hr | hr
    · exact .of (List.mem_append_left _ hr)
    · exact Sp.mono (fun r hr => List.mem_append_right _ hr) ((h r).mp (.of hr))
  exact ⟨key b b' h x, key b' b (fun x => (h x).symm) x⟩
theorem DI.none {rs : List (List Int)} {w n k b c : Nat} {T : Ve → Prop} {done left rest : List P2} (h : DI rs w n k b c T done left) (g : GI rs w n k b (Sl (left.map fun p => vec p.1)) [] rest) : DI rs w n (k + 1) (up b) c T done rest where
  len := fun p hp => by
    rcases List.mem_append.mp hp with hp | hp
    · exact h.len p (List.mem_append_left _ hp)
    · exact g.gs.len p hp
  mx := fun p hp => by
    rcases List.mem_append.mp hp with hp | hp
    · exact h.mx p (List.mem_append_left _ hp)
    · exact g.gs.mx p hp
  sp := fun x => by
    rw [← h.sp x, List.map_append, List.map_append]
    exact sl_app (fun x => g.gs.sp x) x
  zl := fun p hp i hi => by
    rcases Nat.lt_or_ge i k with q | q
    · exact g.gs.z p hp i q
    · have : i = k := by omega
      rw [this]
      exact g.r0 p hp
  bl := g.bd
  bd := h.bd
  st := h.st
  ft := fun p hp => by
    obtain ⟨j, h1, h2⟩ := h.ft p hp
    exact ⟨j, by omega, h2⟩
/-- with a row for column k: f's number there is above 0 -/
theorem DI.some {rs : List (List Int)} {w n k b c : Nat} {T : Ve → Prop} {done left rest : List P2} {f0 f : P2} (h : DI rs w n k b c T done left) (g : GI rs w n k b (Sl (left.map fun p => vec p.1)) [f0] rest)
    (hf : f = f0 ∧ 0 < vt f0 k ∨ f = less f0 f0 2 ∧ vt f0 k < 0) : DI rs w n (k + 1) (up b) (c + up b + 1) T (done.map (lss k f) ++ [f]) rest := by
  have lf0 := g.gs.len f0 (List.mem_append_left _ (List.mem_singleton_self _))
  have mf0 := g.gs.mx f0 (List.mem_append_left _ (List.mem_singleton_self _))
  have zf0 := g.gs.z f0 (List.mem_append_left _ (List.mem_singleton_self _))
  have bf0 := g.bd f0 (List.mem_append_left _ (List.mem_singleton_self _))
  have key : (f.1.length = w ∧ f.2.length = n) ∧ (∀ i, vec f.1 i = dot f.2 rs i) ∧ (∀ i, i < k → vec f.1 i = 0) ∧ (∀ e, Ent f e → e.natAbs < 2 ^ up b) ∧ 0 < vt f k ∧ ∃ s : Int, (s = 1 ∨ s = -1) ∧ ∀ i, vec f.1 i = s * vec f0.1 i := by
    rcases hf with ⟨rfl, hp⟩ | ⟨rfl, hp⟩
    · exact ⟨lf0, mf0, zf0, bf0, hp, 1, .inl rfl, fun i => by omega⟩
    · have v : ∀ i, vec (less f0 f0 2).1 i = -1 * vec f0.1 i := fun i => by
        show vec (lsl f0.1 f0.1 2) i = _
        rw [vec_lsl rfl]
        omega
      refine ⟨⟨(len_lsl rfl).trans lf0.1, (len_lsl rfl).trans lf0.2⟩, fun i => ?_, fun i hi => by rw [v, zf0 i hi]; rfl, fun e he => ?_, by show 0 < vec (less f0 f0 2).1 k; rw [v]; have : vec f0.1 k < 0 := hp; omega, -1, .inr rfl, v⟩
      · show _ = dot (lsl f0.2 f0.2 2) rs i
        rw [v, dot_lsl rfl, mf0]
        omega
      · have neg : ∀ (l : List Int) (e : Int), e ∈ lsl l l 2 → ∃ x ∈ l, e = -x := by
          intro l
          induction l with
          | nil => intro e he; simp [lsl] at he
          | cons a l ih =>
            intro e he
            rcases List.mem_cons.mp (show e ∈ (a - 2 * a) :: lsl l l 2 from he) with rfl | he
            · exact ⟨a, List.mem_cons_self .., by omega⟩
            · obtain ⟨x, hx, e2⟩ := ih e he
              exact ⟨x, List.mem_cons_of_mem _ hx, e2⟩
        rcases he with he | he
        · obtain ⟨x, hx, rfl⟩ := neg _ _ he
          have := bf0 x (.inl hx)
          omega
        · obtain ⟨x, hx, rfl⟩ := neg _ _ he
          have := bf0 x (.inr hx)
          omega
  obtain ⟨lf, mf, zf, bf, pf, s, hs, vf⟩ := key
  have hft : Ft (vec f.1) k := ⟨zf, pf⟩
  have ld : ∀ p ∈ done, p.1.length = f.1.length ∧ p.2.length = f.2.length := fun p hp => by
    have := h.len p (List.mem_append_left _ hp)
    omega
  have vl : ∀ p ∈ done, ∀ i, vec (lss k f p).1 i = vec p.1 i - (vt p k).fdiv (vt f k) * vec f.1 i := fun p hp i => vec_lsl (ld p hp).1 i
  -- the span of f with rest is that of left
  have spf : ∀ x, Sl ((f :: rest).map fun p => vec p.1) x ↔ Sl (left.map fun p => vec p.1) x := fun x => by
    rw [← g.gs.sp x]
    constructor
    · refine Sp.le fun r hr => ?_
      rcases List.mem_cons.mp hr with rfl | hr
      · have : Sl (([f0] ++ rest).map fun p => vec p.1) (vec f0.1) := .of (List.mem_cons_self ..)
        exact (this.smul s).cong fun i => (vf i).symm
      · exact .of (List.mem_cons_of_mem _ hr)
    · refine Sp.le fun r hr => ?_
      rcases List.mem_cons.mp hr with rfl | hr
      · have : Sl ((f :: rest).map fun p => vec p.1) (vec f.1) := .of (List.mem_cons_self ..)
        exact (this.smul s).cong fun i => by
          show s * vec f.1 i = vec f0.1 i
          rw [vf]
          rcases hs with rfl | rfl <;> omega
      · exact .of (List.mem_cons_of_mem _ hr)
  refine ⟨fun p hp => ?_, fun p hp i => ?_, fun x => ?_, fun p hp i hi => ?_, fun p hp => g.bd p (List.mem_append_right _ hp), fun p hp e he => ?_, ?_, fun p hp => ?_⟩
  · rcases List.mem_append.mp hp with hp | hp
    · rcases List.mem_append.mp hp with hp | hp
      · obtain ⟨q, hq, rfl⟩ := List.mem_map.mp hp
        have := h.len q (List.mem_append_left _ hq)
        exact ⟨(len_lsl (ld q hq).1).trans this.1, (len_lsl (ld q hq).2).trans this.2⟩
      · rw [List.mem_singleton.mp hp]
        exact lf
    · exact g.gs.len p (List.mem_append_right _ hp)
  · rcases List.mem_append.mp hp with hp | hp
    · rcases List.mem_append.mp hp with hp | hp
      · obtain ⟨q, hq, rfl⟩ := List.mem_map.mp hp
        rw [vl q hq]
        show _ = dot (lsl q.2 f.2 _) rs i
        rw [dot_lsl (ld q hq).2, h.mx q (List.mem_append_left _ hq), mf]
      · rw [List.mem_singleton.mp hp]
        exact mf i
    · exact g.gs.mx p (List.mem_append_right _ hp) i
  · rw [← h.sp x]
    have e1 : Sl ((done ++ left).map fun p => vec p.1) x ↔ Sl ((done ++ (f :: rest)).map fun p => vec p.1) x := by
      rw [List.map_append, List.map_append]
      exact sl_app (fun x => (spf x).symm) x
    rw [e1]
    constructor
    · refine Sp.le fun r hr => ?_
      obtain ⟨p, hp, rfl⟩ := List.mem_map.mp hr
      have mem : ∀ p ∈ done ++ (f :: rest), Sl ((done ++ (f :: rest)).map fun p => vec p.1) (vec p.1) := fun p hp => .of (List.mem_map.mpr ⟨p, hp, rfl⟩)
      have memf := mem f (List.mem_append_right _ (List.mem_cons_self ..))
      rcases List.mem_append.mp hp with hp | hp
      · rcases List.mem_append.mp hp with hp | hp
        · obtain ⟨q, hq, rfl⟩ := List.mem_map.mp hp
          exact ((mem q (List.mem_append_left _ hq)).subm _ memf).cong fun i => (vl q hq i).symm
        · rw [List.mem_singleton.mp hp]
          exact memf
      · exact mem p (List.mem_append_right _ (List.mem_cons_of_mem _ hp))
    · refine Sp.le fun r hr => ?_
      obtain ⟨p, hp, rfl⟩ := List.mem_map.mp hr
      have mem : ∀ p ∈ done.map (lss k f) ++ [f] ++ rest, Sl ((done.map (lss k f) ++ [f] ++ rest).map fun p => vec p.1) (vec p.1) := fun p hp => .of (List.mem_map.mpr ⟨p, hp, rfl⟩)
      have memf := mem f (List.mem_append_left _ (List.mem_append_right _ (List.mem_singleton_self _)))
      rcases List.mem_append.mp hp with hp | hp
      · exact ((mem (lss k f p) (List.mem_append_left _ (List.mem_append_left _ (List.mem_map.mpr ⟨p, hp, rfl⟩)))).subm (-((vt p k).fdiv (vt f k))) memf).cong fun i => by
          show vec (lss k f p).1 i - -((vt p k).fdiv (vt f k)) * vec f.1 i = vec p.1 i
          rw [vl p hp, Int.neg_mul]
          omega
      · rcases List.mem_cons.mp hp with rfl | hp
        · exact memf
        · exact mem p (List.mem_append_right _ hp)
  · rcases Nat.lt_or_ge i k with q | q
    · exact g.gs.z p (List.mem_append_right _ hp) i q
    · have : i = k := by omega
      rw [this]
      exact g.r0 p hp
  · have pw : 2 ^ (c + up b + 1) = 2 * (2 ^ c * 2 ^ up b) := by
      rw [← Nat.pow_add, Nat.pow_succ]
      omega
    have c1 : 1 ≤ 2 ^ c := Nat.pow_pos (by decide)
    have c2 : 1 ≤ 2 ^ up b := Nat.pow_pos (by decide)
    rcases List.mem_append.mp hp with hp | hp
    · obtain ⟨q, hq, rfl⟩ := List.mem_map.mp hp
      obtain ⟨x, y, hx, hy, rfl⟩ := ent_less he
      have b1 := h.bd q hq x hx
      have b2 := bf y hy
      have b3 := abs_sub_mul x ((vt q k).fdiv (vt f k)) y
      have b4 : ((vt q k).fdiv (vt f k)).natAbs ≤ 2 ^ c := by
        have := fdiv_abs1 (v := vt q k) (f := vt f k) (by omega)
        have b5 : (vt q k).natAbs < 2 ^ c := by
          by_cases z : vt q k = 0
          · rw [z]
            exact c1
          · exact h.bd q hq _ (vt_ent z)
        omega
      have b6 : ((vt q k).fdiv (vt f k)).natAbs * y.natAbs ≤ 2 ^ c * (2 ^ up b - 1) := Nat.mul_le_mul b4 (by omega)
      have b7 : 2 ^ c * (2 ^ up b - 1) + 2 ^ c = 2 ^ c * 2 ^ up b := by
        rw [Nat.mul_sub, Nat.mul_one]
        have : 2 ^ c * 1 ≤ 2 ^ c * 2 ^ up b := Nat.mul_le_mul_left _ c2
        omega
      have b8 : 1 * 1 ≤ 2 ^ c * 2 ^ up b := Nat.mul_le_mul c1 c2
      omega
    · rw [List.mem_singleton.mp hp] at he
      have := bf e he
      have : 1 * 2 ^ up b ≤ 2 ^ c * 2 ^ up b := Nat.mul_le_mul_right _ c1
      omega
  · rw [List.map_append, List.map_map]
    have hg := Stair.snoc hft h.st (fun r hr => by
      obtain ⟨p, hp, rfl⟩ := List.mem_map.mp hr
      exact h.ft p hp) (fun r i => r i - (r k).fdiv (vt f k) * vec f.1 i) (fun r hr => ⟨(r k).fdiv (vt f k), fun i => rfl⟩) (fun r hr => by
      show 0 ≤ r k - (r k).fdiv (vt f k) * vt f k ∧ r k - (r k).fdiv (vt f k) * vt f k < vt f k
      rw [fdiv_fmod]
      exact (fmod_sgn (by omega)).1 pf)
    rw [List.map_map] at hg
    have e : (done.map ((fun p : P2 => vec p.1) ∘ lss k f)) = done.map ((fun (r : Ve) i => r i - (r k).fdiv (vt f k) * vec f.1 i) ∘ fun p => vec p.1) := List.map_congr_left fun p hp => funext fun i => vl p hp i
    rw [e]
    exact hg
  · rcases List.mem_append.mp hp with hp | hp
    · obtain ⟨q, hq, rfl⟩ := List.mem_map.mp hp
      obtain ⟨j, hj, hj2⟩ := h.ft q hq
      have sm : ∀ i, i < k → vec (lss k f q).1 i = vec q.1 i := fun i hi => by
        rw [vl q hq, zf i hi]
        simp
      exact ⟨j, by omega, fun i hi => by rw [sm i (by omega)]; exact hj2.1 i hi, by rw [sm j hj]; exact hj2.2⟩
    · rw [List.mem_singleton.mp hp]
      exact ⟨k, by omega, hft⟩
def bb (b : Nat) : Nat → Nat
  | 0 => b
  | k + 1 => up (bb b k)
def cc (b : Nat) : Nat → Nat
  | 0 => 0
  | k + 1 => cc b k + up (bb b k) + 1
theorem Bd.mono {b c : Nat} {l : List P2} (h : Bd b l) (e : b ≤ c) : Bd c l := fun p hp x hx => Nat.lt_of_lt_of_le (h p hp x hx) (Nat.pow_le_pow_right (by decide) e)
theorem DI.start {rs : List (List Int)} {w b : Nat} (hw : ∀ r ∈ rs, r.length = w) (hb : ∀ r ∈ rs, ∀ e ∈ r, e.natAbs < 2 ^ b) (b1 : 1 ≤ b) : DI rs w rs.length 0 b 0 (Sl (rs.map vec)) [] ((List.range rs.length).map fun i => (rs.getD i [], unit rs.length i)) where
  len := fun p hp => by
    obtain ⟨i, hi, rfl⟩ := List.mem_map.mp hp
    have hi := List.mem_range.mp hi
    refine ⟨hw _ ?_, unit_len ..⟩
    show rs.getD i [] ∈ rs
    rw [List.getD_eq_getElem?_getD, List.getElem?_eq_getElem hi]
    exact List.getElem_mem hi
  mx := fun p hp i => by
    obtain ⟨a, ha, rfl⟩ := List.mem_map.mp hp
    exact (dot_unit rs a (List.mem_range.mp ha) i).symm
  sp := fun x => by
    have e : (([] ++ (List.range rs.length).map fun i => (rs.getD i [], unit rs.length i)).map fun p : P2 => vec p.1) = rs.map vec := by
      rw [List.nil_append, List.map_map]
      apply List.ext_getElem
      · simp
      · intro i h1 h2
        simp at h1
        simp [h1]
    rw [e]
  zl := fun p hp i hi => by omega
  bl := fun p hp e he => by
    obtain ⟨i, hi, rfl⟩ := List.mem_map.mp hp
    have hi := List.mem_range.mp hi
    rcases he with he | he
    · refine hb (rs.getD i []) ?_ e he
      rw [List.getD_eq_getElem?_getD, List.getElem?_eq_getElem hi]
      exact List.getElem_mem hi
    · have : 2 ^ 1 ≤ 2 ^ b := Nat.pow_le_pow_right (by decide) b1
      obtain ⟨j, hj, rfl⟩ := List.mem_map.mp he
      split <;> simp <;> omega
  bd := fun p hp => by cases hp
  st := .nil
  ft := fun p hp => by cases hp
/-- at the end: the stair -/
theorem DI.fin {rs : List (List Int)} {w n b c : Nat} {T : Ve → Prop} {done left : List P2} (h : DI rs w n w b c T done left) : ∀ x, Sl (done.map fun p => vec p.1) x ↔ T x := fun x => by
  rw [← h.sp x, List.map_append]
  constructor
  · exact Sp.mono fun r hr => List.mem_append_left _ hr
  · refine Sp.le fun r hr => ?_
    rcases List.mem_append.mp hr with hr | hr
    · exact .of hr
    · obtain ⟨p, hp, rfl⟩ := List.mem_map.mp hr
      exact Sp.zero.cong fun i => by
        rcases Nat.lt_or_ge i w with q | q
        · exact (h.zl p hp i q).symm
        · exact (vec_out (by rw [(h.len p (List.mem_append_right _ hp)).1]; exact q)).symm
end St
/-! ### rows of whole numbers as matrices: deeds on rows, sides, sums -/
namespace Dg
abbrev Mat := List (List Int)
def row (G : Mat) (a : Nat) : List Int := G.getD a []
def ent (G : Mat) (a b : Nat) : Int := (row G a).getD b 0
structure Dim (G : Mat) (m n : Nat) : Prop where
  h : G.length = m
  w : ∀ r ∈ G, r.length = n
theorem Dim.row {G : Mat} {m n a : Nat} (d : Dim G m n) (h : a < m) : (row G a).length = n := by
  have ha : a < G.length := by rw [d.h]; exact h
  have e : Dg.row G a = G[a] := by simp [Dg.row, List.getD, ha]
  rw [e]
  exact d.w _ (List.getElem_mem ha)
theorem row_out {G : Mat} {a : Nat} (h : G.length ≤ a) : row G a = [] := by
  simp [row, List.getD, h]
theorem Dim.set {G : Mat} {m n i : Nat} {r : List Int} (d : Dim G m n) (h : r.length = n) : Dim (G.set i r) m n :=
  ⟨by rw [List.length_set]; exact d.h, fun x hx => by
    rcases List.mem_or_eq_of_mem_set hx with q | q
    · exact d.w x q
    · rw [q]; exact h⟩
/-! sums -/
def sm : Nat → (Nat → Int) → Int
  | 0, _ => 0
  | n + 1, f => sm n f + f n
theorem sm_congr {f g : Nat → Int} : ∀ {n : Nat}, (∀ k, k < n → f k = g k) → sm n f = sm n g
  | 0, _ => rfl
  | n + 1, h => by
    show sm n f + f n = sm n g + g n
    rw [sm_congr fun k hk => h k (by omega), h n (by omega)]
theorem sm_add (f g : Nat → Int) : ∀ n, sm n (fun k => f k + g k) = sm n f + sm n g
  | 0 => rfl
  | n + 1 => by
    show sm n _ + (f n + g n) = (sm n f + f n) + (sm n g + g n)
    rw [sm_add f g n]
    omega
theorem sm_zero {f : Nat → Int} : ∀ {n}, (∀ k, k < n → f k = 0) → sm n f = 0
  | 0, _ => rfl
  | n + 1, h => by
    show sm n f + f n = 0
    rw [sm_zero fun k hk => h k (by omega), h n (by omega)]
    rfl
/-- one term alone -/
theorem sm_one {i : Nat} (c : Int) : ∀ {n}, i < n → sm n (fun k => if k = i then c else 0) = c
  | 0, h => by omega
  | n + 1, h => by
    show sm n _ + (if n = i then c else 0) = c
    by_cases e : n = i
    · subst e
      rw [if_pos rfl, sm_zero fun k hk => if_neg (by omega)]
      omega
    · rw [if_neg e, sm_one c (by omega)]
      omega
theorem sm_only {i n : Nat} {f : Nat → Int} (hi : i < n) (h : ∀ k, k < n → k ≠ i → f k = 0) : sm n f = f i := by
  rw [sm_congr (g := fun k => if k = i then f i else 0) fun k hk => by
    by_cases e : k = i
    · rw [if_pos e, e]
    · rw [if_neg e, h k hk e]]
  exact sm_one _ hi
/-! a side: two matrices, one taken back by the other turned over -/
def dl (a b : Nat) : Int := if a = b then 1 else 0
/-! what follows the deeds of a side -/
def Lin (f : (Nat → Int) → Int) : Prop := ∀ x y : Nat → Int, ∀ c : Int, f (fun t => x t + c * y t) = f x + c * f y
/-- the grid's rows go along with the side's -/
def Fol (k : Nat) (G A G' A' : Mat) : Prop := ∀ b, ∀ f : (Nat → Int) → Int, Lin f → (∀ a, a < k → ent G a b = f (ent A a)) → ∀ a, a < k → ent G' a b = f (ent A' a)
theorem Fol.trans {k : Nat} {G A G1 A1 G2 A2 : Mat} (h : Fol k G A G1 A1) (g : Fol k G1 A1 G2 A2) : Fol k G A G2 A2 := fun b f l q => g b f l (h b f l q)
/-- all numbers are small -/
def Bn (N : Nat) (G : Mat) : Prop := ∀ a b, (ent G a b).natAbs ≤ N
theorem Bn.mono {N N' : Nat} {G : Mat} (h : Bn N G) (l : N ≤ N') : Bn N' G := fun a b => Nat.le_trans (h a b) l
/-! floor division -/
theorem fmod_pos' (x : Int) {p : Int} (h : 0 < p) : 0 ≤ x.fmod p ∧ x.fmod p < p := ⟨Int.fmod_nonneg_of_pos x h, Int.fmod_lt_of_pos x h⟩
theorem fmod_neg' (x : Int) {p : Int} (h : p < 0) : x.fmod p ≤ 0 ∧ p < x.fmod p := by
  have := fmod_pos' (-x) (p := -p) (by omega)
  rw [Int.neg_fmod_neg] at this
  omega
theorem fmod_abs (x : Int) {p : Int} (h : p ≠ 0) : (x.fmod p).natAbs < p.natAbs := by
  rcases Int.lt_or_gt_of_ne h with h | h
  · have := fmod_neg' x h
    omega
  · have := fmod_pos' x h
    omega
theorem fdiv_abs_pos (x : Int) {p : Int} (h : 0 < p) : (x.fdiv p).natAbs ≤ x.natAbs := by
  have h1 := Int.mul_fdiv_add_fmod x p
  obtain ⟨h2, h3⟩ := fmod_pos' x h
  generalize x.fdiv p = q at *
  generalize x.fmod p = r at *
  by_cases hq : 0 ≤ q
  · have := Int.mul_nonneg (show 0 ≤ p - 1 by omega) hq
    rw [Int.sub_mul] at this
    omega
  · have := Int.mul_nonneg (show 0 ≤ p - 1 by omega) (show 0 ≤ -(q + 1) by omega)
    have e : (p - 1) * -(q + 1) = - (p * q) - p + q + 1 := by grind
    omega
theorem fdiv_abs (x : Int) {p : Int} (h : p ≠ 0) : (x.fdiv p).natAbs ≤ x.natAbs := by
  rcases Int.lt_or_gt_of_ne h with h | h
  · have := fdiv_abs_pos (-x) (p := -p) (by omega)
    rw [Int.neg_fdiv_neg] at this
    omega
  · exact fdiv_abs_pos x h
theorem ent_out {G : Mat} {m n a b : Nat} (d : Dim G m n) (h : m ≤ a ∨ n ≤ b) : ent G a b = 0 := by
  by_cases ha : a < m
  · have hb : n ≤ b := by omega
    have := d.row ha
    simp [ent, List.getD, show ¬ b < (row G a).length by omega]
  · have : row G a = [] := row_out (by rw [d.h]; omega)
    simp [ent, this]
theorem Bn.of {G : Mat} {m n M : Nat} (d : Dim G m n) (h : ∀ a b, a < m → b < n → (ent G a b).natAbs ≤ M) : Bn M G := fun a b => by
  by_cases q : a < m ∧ b < n
  · exact h a b q.1 q.2
  · rw [ent_out d (by omega)]
    simp
/-- one turn of the grid: swapped, columns cleared, rows cleared -/
def swpi (i j a : Nat) : Nat := if a = j then i else if a = i then j else a
def g1 (G : Mat) (at_ i j a b : Nat) : Int := ent G (swpi at_ i a) (swpi at_ j b)
def g2 (G : Mat) (at_ i j a b : Nat) : Int := if at_ < b then g1 G at_ i j a b - (g1 G at_ i j at_ b).fdiv (g1 G at_ i j at_ at_) * g1 G at_ i j a at_ else g1 G at_ i j a b
def g3 (G : Mat) (at_ i j a b : Nat) : Int := if at_ < a then g2 G at_ i j a b - (g2 G at_ i j a at_).fdiv (g2 G at_ i j at_ at_) * g2 G at_ i j at_ b else g2 G at_ i j a b
end Dg
namespace Pu
open PySem L2
variable [TabT]
@[simp] theorem po_callBn {X : Exn → En → Prop} {kk : RV → En → Prop} (i : Nat) (f : List Sl → Re RV) (ms : M (List D)) (r : En) : Wp X (cCallBn i f ms r) kk = (match getC i r with
  | none => False
  | some _ => Wp (fun _ _ => False) (ms r) fun es r1 => (match r1[i]? with
    | some (.o (.l ds)) => Wp (fun _ _ => False) (f (.v (.list ds) :: es.map .v)) fun rv _ => noLR rv = true ∧ kk rv r1
    | _ => False)) := by
  simp only [wp_eq]
  unfold cCallBn
  cases getC i r with
  | none => rfl
  | some c0 =>
    show Po X (match ms r with
      | .ok es r1 => (match r1[i]? with
        | some (.o (.l ds)) => (match f (.v (.list ds) :: es.map .v) with
          | .ok rv _ => cI (noLR rv = true) (.ok rv r1) .no
          | _ => .no)
        | _ => .no)
      | _ => .no) kk = _
    cases ms r with
    | no => rfl
    | ex e r1 => rfl
    | ok es r1 =>
      show Po X (match r1[i]? with
        | some (.o (.l ds)) => (match f (.v (.list ds) :: es.map .v) with
          | .ok rv _ => cI (noLR rv = true) (.ok rv r1) .no
          | _ => .no)
        | _ => .no) kk = (match r1[i]? with
        | some (.o (.l ds)) => Po (fun _ _ => False) (f (.v (.list ds) :: es.map .v)) fun rv _ => noLR rv = true ∧ kk rv r1
        | _ => False)
      split
      · rename_i ds h
        cases f (.v (.list ds) :: es.map .v) with
        | no => rfl
        | ex e z => rfl
        | ok rv z =>
          show Po X (cI (noLR rv = true) (.ok rv r1) .no) kk = _
          rw [qo_cI]
          rfl
      · rfl
theorem po_LF1 {γ : Type} {X : Exn → En → Prop} {kk : RV → En → Prop} {src : M (List D)} {i : Nat} {tt : M Bool} {te : M D} {r : En} (f g : γ → D) (p : γ → Bool) (xs : List γ) (hsrc : Wp X (src r) fun ds r' => ds = xs.map f ∧ r' = r) (ho : noOwn r [i] = true) (hl : xs.length ≤ 16777216)
    (hb : ∀ x ∈ xs, Wp (fun _ _ => False) (tt (r.set i (.v (f x)))) fun b r2 => b = p x ∧ r2 = r.set i (.v (f x)) ∧ (p x = true → Wp (fun _ _ => False) (te r2) fun y r3 => y = g x ∧ r3 = r.set i (.v (f x)))) (hk : kk (.o (.l ((xs.filter p).map g))) r) : Wp X (oComp src [i] (gN i) tt te r) kk := by
  rw [po_comp]
  refine po_mono hsrc ?_
  rintro _ _ ⟨rfl, rfl⟩
  refine ⟨ho, ?_⟩
  have hi := (own_lt ho).1
  rename_i q
  refine po_compF (f := f) (g := g) (p := p) (fun r => ∃ s, r = q.set i s) xs [] q ⟨q[i], by rw [List.set_getElem_self]⟩ (by simpa using hl) ?_ ?_
  · rintro x hx _ ⟨s, rfl⟩
    refine ⟨q.set i (.v (f x)), ?_, po_mono (hb x hx) ?_⟩
    · simp [hi]
    · rintro b r2 ⟨h1, h2, h3⟩
      refine ⟨h1, fun _ => ⟨_, h2⟩, fun hp => po_mono (h3 hp) ?_⟩
      rintro y r3 ⟨h4, h5⟩
      exact ⟨h4, _, h5⟩
  · rintro _ ⟨s, rfl⟩
    rw [List.nil_append]
    simp only [wipe_cons, wipe_nil, back_cons, back_nil]
    rw [set_back _ _ _ _ hi]
    exact hk
/-! ### rows and pairs as data -/
@[simp] theorem intD_tt : intD (.bool true) = some (.int 1) := rfl
@[simp] theorem intD_ff : intD (.bool false) = some (.int 0) := rfl
@[simp] theorem at10 (x : D) : atI [x] 0 = some x := rfl
@[simp] theorem at20 (x y : D) : atI [x, y] 0 = some x := rfl
@[simp] theorem at21 (x y : D) : atI [x, y] 1 = some y := rfl
def rD (r : List Int) : D := .tuple (r.map .int)
def pD (p : St.P2) : D := .tuple [rD p.1, rD p.2]
@[simp] theorem isnt_nn : isntD .none .none = some (.bool false) := rfl
@[simp] theorem isnt_pD (p : St.P2) : isntD (pD p) .none = some (.bool true) := rfl
@[simp] theorem isnt_t (ds : List D) : isntD (.tuple ds) .none = some (.bool true) := rfl
theorem eqv_pD (p q : St.P2) : PyData.eqv (pD p) (pD q) = decide (p = q) := by
  show (PyData.eqvAll (p.1.map .int) (q.1.map .int) && (PyData.eqvAll (p.2.map .int) (q.2.map .int) && true)) = _
  rw [eqv_ints, eqv_ints, Bool.and_true]
  obtain ⟨a, b⟩ := p
  obtain ⟨c, d⟩ := q
  by_cases h1 : a = c
  · by_cases h2 : b = d
    · simp [h1, h2]
    · simp [h1, h2]
  · simp [h1]
theorem place_pD {ps : List St.P2} {f : St.P2} (h : f ∈ ps) : ∃ j, SeqAt.dataPlace (ps.map pD) (pD f) = some j ∧ j < ps.length ∧ (∀ p, p ∈ ps ↔ p = f ∨ p ∈ ps.eraseIdx j) ∧ ∀ h : j < ps.length, ps[j] = f := by
  unfold SeqAt.dataPlace
  rw [List.findIdx?_map]
  have e : ((fun y => PyData.eqv y (pD f)) ∘ pD) = fun p => decide (p = f) := funext fun p => eqv_pD p f
  rw [e]
  cases hj : ps.findIdx? (fun p => decide (p = f)) with
  | none =>
    have := List.findIdx?_eq_none_iff.mp hj f h
    simp at this
  | some j =>
    obtain ⟨hlt, hp, _⟩ := List.findIdx?_eq_some_iff_getElem.mp hj
    have hp : ps[j] = f := by simpa using hp
    refine ⟨j, rfl, hlt, fun p => ?_, fun _ => hp⟩
    have e2 : ps = ps.take j ++ f :: ps.drop (j + 1) := by
      rw [← hp, List.getElem_cons_drop, List.take_append_drop]
    rw [List.eraseIdx_eq_take_drop_succ]
    conv => lhs; rw [e2]
    simp only [List.mem_append, List.mem_cons]
    constructor
    · rintro (h | h | h)
      · exact .inr (.inl h)
      · exact .inl h
      · exact .inr (.inr h)
    · rintro (h | h | h)
      · exact .inr (.inl h)
      · exact .inl h
      · exact .inr (.inr h)
theorem rD_lay (r : List Int) : (rD r).canLay0 = true := lay_ints r
theorem rD_depth (r : List Int) : (rD r).depth ≤ 2 := by
  have := depthAll_map PyData.int 1 r fun x _ => by simp [PyData.depth]
  unfold rD
  simp only [PyData.depth]
  omega
theorem pD_lay (p : St.P2) : (pD p).canLay0 = true := by
  show ((rD p.1).canLay0 && ((rD p.2).canLay0 && true)) = true
  rw [rD_lay, rD_lay]
  rfl
theorem pD_depth (p : St.P2) : (pD p).depth ≤ 3 := by
  have h1 := rD_depth p.1
  have h2 := rD_depth p.2
  unfold pD
  simp only [PyData.depth, PyData.depthAll]
  omega
theorem layAll_map {α : Type} (f : α → D) (h : ∀ a, (f a).canLay0 = true) : ∀ l : List α, PyData.canLayAll0 (l.map f) = true
  | [] => rfl
  | a :: l => by
    show ((f a).canLay0 && PyData.canLayAll0 (l.map f)) = true
    rw [h a, layAll_map f h l]
    rfl
theorem shaped_pD (p : St.P2) : SeqAt.shaped (pD p) = true := Bool.and_eq_true_iff.mpr ⟨pD_lay p, decide_eq_true (Nat.le_trans (pD_depth p) (by decide))⟩
theorem shaped_pDs (ps : List St.P2) : SeqAt.shaped (.list (ps.map pD)) = true := Bool.and_eq_true_iff.mpr ⟨layAll_map pD pD_lay ps, decide_eq_true (by
  have := depthAll_map pD 3 ps fun x _ => pD_depth x
  simp only [PyData.depth]
  omega)⟩
theorem noL_ints : ∀ r : List Int, noLAll (r.map .int) = true
  | [] => rfl
  | i :: r => noL_ints r
theorem noL_pD (p : St.P2) : noL (pD p) = true := by
  show (noLAll (p.1.map .int) && (noLAll (p.2.map .int) && true)) = true
  rw [noL_ints, noL_ints]
  rfl
end Pu
namespace K14
open PySem PySem.Spec PyProof.Rows L2 Pu
abbrev ln : List Str := []
instance : TabT := ⟨tabsN ln⟩
def topS (i : Nat) : Stmt := PySem.Challenge.pw_commonhouse_k14_words_reached.main.body.getD i (.Pass ⟨0, 0, 0, 0⟩)
abbrev FnP (K : PySem.W.Frag) (x : Str) (st : Stmt) (f : Addr) (fd : FuncData) : Prop := FunD K x x (defArgs st) (defBody st) (defScope st) [] [] f fd
structure Bz (K : PySem.W.Frag) (w : World) (mg : Str → Option Value) : Prop where
  b_range : mg "range" = none
  b_int : mg "int" = none
  b_tuple : mg "tuple" = none
  b_enumerate : mg "enumerate" = none
  b_zip : mg "zip" = none
  b_abs : mg "abs" = none
  b_len : mg "len" = none
  b_isinstance : mg "isinstance" = none
  b_bool : mg "bool" = none
  b_min : mg "min" = none
  b_max : mg "max" = none
  b_repr : mg "repr" = none
section
variable {P : Program} {w : World} {K : PySem.W.Frag} {mg : Str → Option Value} {base : Heap}
abbrev s_unit_row : Stmt := topS 1
abbrev N_unit_row : List Str := ["n", "at", "k"]
theorem sc_unit_row : FnScope N_unit_row ["n", "at"] (defScope s_unit_row) := ⟨rfl, rfl, rfl, by decide +kernel, rfl, by decide +kernel, by decide +kernel⟩
noncomputable def b_unit_row : M Fl := (sRet ((nry (one tupD) (aCons (frzM (oComp (iBy rng1 (aCons (getS 0) aNil)) [2] (gN 2) yes (nry (one intD) (aCons (bin eqD (getS 2) (getS 1)) aNil)))) aNil)).bind fun d => M.ret (.v d)))
noncomputable def m_unit_row : List Sl → Re RV := fnOf 3 b_unit_row
theorem ok_unit_row {f : Addr} {fd : FuncData} (Fu : FnP K "unit_row" s_unit_row f fd) (B : Bz K w mg) (NS : SeerK P base) : FnG P w K mg base 1 f fd ["n", "at"] (spG K mg 2 m_unit_row) :=
  mk_fn Fu sc_unit_row fun cdv A outer s H E hr =>
  (ss_one (s_ret (o_val (e_callT tup_data B.b_tuple (a_cons (e_val (o_lc (own := [("k", 2)]) (i_rng1 (a_cons (e_var 0) a_nil) B.b_range) (blkOk_by (show blkC N_unit_row (defScope s_unit_row) _ [("k", 2)] = true from by decide +kernel)) (fun _ _ _ _ _ => (g_name 2 sc_unit_row.nd)) (fun _ _ _ _ _ => ts_nil) (fun _ _ _ _ _ => (e_callT int_data B.b_int (a_cons (e_cmp (eq_data hr.units) (e_var 2) (e_var 1)) a_nil))) sc_unit_row.nd)) a_nil)))))
abbrev s_foot_of : Stmt := topS 3
abbrev N_foot_of : List Str := ["row", "at", "number"]
theorem sc_foot_of : FnScope N_foot_of ["row"] (defScope s_foot_of) := ⟨rfl, rfl, rfl, by decide +kernel, rfl, by decide +kernel, by decide +kernel⟩
noncomputable def b_foot_of : M Fl := (sSeq (sFor (iBy enOf (aCons (getS 0) aNil)) (gT (gCn (gN 1) (gCn (gN 2) gNl)))
  (sIf (tBool (bin neD (getS 2) (M.ret (.int 0))))
  (sRet ((getS 1).bind fun d => M.ret (.v d)))
  sNil))
  (sRet ((M.ret .none).bind fun d => M.ret (.v d))))
noncomputable def m_foot_of : List Sl → Re RV := fnOf 3 b_foot_of
theorem ok_foot_of {f : Addr} {fd : FuncData} (Fu : FnP K "foot_of" s_foot_of f fd) (B : Bz K w mg) (NS : SeerK P base) : FnG P w K mg base 1 f fd ["row"] (spG K mg 1 m_foot_of) :=
  mk_fn Fu sc_foot_of fun cdv A outer s H E hr =>
  (ss_cons (s_for (i_enum (a_cons (e_var 0) a_nil) B.b_enumerate) (g_tup (g_cons (g_name 1 sc_foot_of.nd) (g_cons (g_name 2 sc_foot_of.nd) g_nil)) (gCn_len (gCn_len gNl_len)))
  (ss_one (s_if (t_cmp (ne_data hr.units) (e_var 2) e_int)
  (ss_one (s_ret (o_val (e_var 1))))
  ss_nil)) (passes_of rfl))
  (ss_one (s_ret (o_val e_non))))
abbrev s_pair_less : Stmt := topS 4
abbrev N_pair_less : List Str := ["pair", "other", "many", "row", "a", "b"]
theorem sc_pair_less : FnScope N_pair_less ["pair", "other", "many"] (defScope s_pair_less) := ⟨rfl, rfl, rfl, by decide +kernel, rfl, by decide +kernel, by decide +kernel⟩
noncomputable def b_pair_less : M Fl := (sSeq (sSet 3 (nry (one tupD) (aCons (frzM (oComp (iBy zipOf (aCons (bin ixD (getS 0) (M.ret (.int 0))) (aCons (bin ixD (getS 1) (M.ret (.int 0))) aNil))) [4, 5] (gT (gCn (gN 4) (gCn (gN 5) gNl))) yes (bin subD (getS 4) (bin mulD (getS 2) (getS 5))))) aNil)))
  (sRet ((eTup (aCons (getS 3) (aCons (nry (one tupD) (aCons (frzM (oComp (iBy zipOf (aCons (bin ixD (getS 0) (M.ret (.int 1))) (aCons (bin ixD (getS 1) (M.ret (.int 1))) aNil))) [4, 5] (gT (gCn (gN 4) (gCn (gN 5) gNl))) yes (bin subD (getS 4) (bin mulD (getS 2) (getS 5))))) aNil)) aNil))).bind fun d => M.ret (.v d))))
noncomputable def m_pair_less : List Sl → Re RV := fnOf 6 b_pair_less
theorem ok_pair_less {f : Addr} {fd : FuncData} (Fu : FnP K "pair_less" s_pair_less f fd) (B : Bz K w mg) (NS : SeerK P base) : FnG P w K mg base 1 f fd ["pair", "other", "many"] (spG K mg 3 m_pair_less) :=
  mk_fn Fu sc_pair_less fun cdv A outer s H E hr =>
  (ss_cons (s_set (i := 3) (e_callT tup_data B.b_tuple (a_cons (e_val (o_lc (own := [("a", 4), ("b", 5)]) (i_zip (a_cons (e_ix ix_data (e_var 0) e_int) (a_cons (e_ix ix_data (e_var 1) e_int) a_nil)) B.b_zip) (blkOk_by (show blkC N_pair_less (defScope s_pair_less) _ [("a", 4), ("b", 5)] = true from by decide +kernel)) (fun _ _ _ _ _ => (g_tup (g_cons (g_name 4 sc_pair_less.nd) (g_cons (g_name 5 sc_pair_less.nd) g_nil)) (gCn_len (gCn_len gNl_len)))) (fun _ _ _ _ _ => ts_nil) (fun _ _ _ _ _ => (e_op sub_data (e_var 4) (e_op mul_data (e_var 2) (e_var 5)))) sc_pair_less.nd)) a_nil)) sc_pair_less.nd)
  (ss_one (s_ret (o_val (e_tup (a_cons (e_var 3) (a_cons (e_callT tup_data B.b_tuple (a_cons (e_val (o_lc (own := [("a", 4), ("b", 5)]) (i_zip (a_cons (e_ix ix_data (e_var 0) e_int) (a_cons (e_ix ix_data (e_var 1) e_int) a_nil)) B.b_zip) (blkOk_by (show blkC N_pair_less (defScope s_pair_less) _ [("a", 4), ("b", 5)] = true from by decide +kernel)) (fun _ _ _ _ _ => (g_tup (g_cons (g_name 4 sc_pair_less.nd) (g_cons (g_name 5 sc_pair_less.nd) g_nil)) (gCn_len (gCn_len gNl_len)))) (fun _ _ _ _ _ => ts_nil) (fun _ _ _ _ _ => (e_op sub_data (e_var 4) (e_op mul_data (e_var 2) (e_var 5)))) sc_pair_less.nd)) a_nil)) a_nil)))))))
abbrev s_nearest_pair : Stmt := topS 5
abbrev N_nearest_pair : List Str := ["pairs", "at", "found", "pair"]
theorem sc_nearest_pair : FnScope N_nearest_pair ["pairs", "at"] (defScope s_nearest_pair) := ⟨rfl, rfl, rfl, by decide +kernel, rfl, by decide +kernel, by decide +kernel⟩
noncomputable def b_nearest_pair : M Fl := (sSeq (sSet 2 (bin ixD (getS 0) (M.ret (.int 0))))
  (sSeq (sFor (iSeq (getS 0)) (gN 3)
  (sIf (tBool (bin ltD (nry (one absD) (aCons (bin ixD (bin ixD (getS 3) (M.ret (.int 0))) (getS 1)) aNil)) (nry (one absD) (aCons (bin ixD (bin ixD (getS 2) (M.ret (.int 0))) (getS 1)) aNil))))
  (sSet 2 (getS 3))
  sNil))
  (sRet ((getS 2).bind fun d => M.ret (.v d)))))
noncomputable def m_nearest_pair : List Sl → Re RV := fnOf 4 b_nearest_pair
theorem ok_nearest_pair {f : Addr} {fd : FuncData} (Fu : FnP K "nearest_pair" s_nearest_pair f fd) (B : Bz K w mg) (NS : SeerK P base) : FnG P w K mg base 1 f fd ["pairs", "at"] (spG K mg 2 m_nearest_pair) :=
  mk_fn Fu sc_nearest_pair fun cdv A outer s H E hr =>
  (ss_cons (s_set (i := 2) (e_ix ix_data (e_var 0) e_int) sc_nearest_pair.nd)
  (ss_cons (s_for (i_seq (e_var 0)) (g_name 3 sc_nearest_pair.nd)
  (ss_one (s_if (t_cmp lt_data (e_callB abs_data B.b_abs (a_cons (e_ix ix_data (e_ix ix_data (e_var 3) e_int) (e_var 1)) a_nil)) (e_callB abs_data B.b_abs (a_cons (e_ix ix_data (e_ix ix_data (e_var 2) e_int) (e_var 1)) a_nil)))
  (ss_one (s_set (i := 2) (e_var 3) sc_nearest_pair.nd))
  ss_nil)) (passes_of rfl))
  (ss_one (s_ret (o_val (e_var 2))))))
abbrev s__law_pen : Stmt := topS 10
abbrev N__law_pen : List Str := ["_law_script", "_law_k", "_law_cell"]
theorem sc__law_pen : FnScope N__law_pen ["_law_script", "_law_k"] (defScope s__law_pen) := ⟨rfl, rfl, rfl, by decide +kernel, rfl, by decide +kernel, by decide +kernel⟩
noncomputable def b__law_pen : M Fl := (sSeq (sSet 2 (bin addD (bin mulD (M.ret (.int 6203)) (getS 1)) (M.ret (.int 17))))
  (sSeq (sIf (tBool (bin ltD (getS 1) (nry (one lenD) (aCons (getS 0) aNil))))
  (sSet 2 (bin ixD (getS 0) (getS 1)))
  (sIf (tBool (bin gtD (nry (one lenD) (aCons (getS 0) aNil)) (M.ret (.int 0))))
  (sSet 2 (bin addD (bin modD (bin ixD (getS 0) (bin modD (getS 1) (nry (one lenD) (aCons (getS 0) aNil)))) (bin powD (M.ret (.int 10)) (M.ret (.int 15)))) (bin mulD (M.ret (.int 40487)) (getS 1))))
  sNil))
  (sSeq (sIf (tBool (bin geD (nry (one absD) (aCons (getS 2) aNil)) (bin powD (M.ret (.int 10)) (M.ret (.int 18)))))
  (sRet (oLst (aCons (bin subD (nry (one absD) (aCons (getS 2) aNil)) (bin powD (M.ret (.int 10)) (M.ret (.int 18)))) (aCons (bin modD (getS 2) (M.ret (.int 2147483587))) (aCons (M.ret (.int 0)) aNil)))))
  sNil)
  (sRet (oLst (aCons (M.ret (.int 0)) (aCons (bin addD (bin modD (getS 2) (M.ret (.int 2147483587))) (bin mulD (M.ret (.int 12289)) (getS 1))) (aCons (M.ret (.int 0)) aNil))))))))
noncomputable def m__law_pen : List Sl → Re RV := fnOf 3 b__law_pen
theorem ok__law_pen {f : Addr} {fd : FuncData} (Fu : FnP K "_law_pen" s__law_pen f fd) (B : Bz K w mg) (NS : SeerK P base) : FnG P w K mg base 1 f fd ["_law_script", "_law_k"] (spG K mg 2 m__law_pen) :=
  mk_fn Fu sc__law_pen fun cdv A outer s H E hr =>
  (ss_cons (s_set (i := 2) (e_op add_data (e_op mul_data e_int (e_var 1)) e_int) sc__law_pen.nd)
  (ss_cons (s_if (t_cmp lt_data (e_var 1) (e_callB len_data B.b_len (a_cons (e_var 0) a_nil)))
  (ss_one (s_set (i := 2) (e_ix ix_data (e_var 0) (e_var 1)) sc__law_pen.nd))
  (ss_one (s_if (t_cmp gt_data (e_callB len_data B.b_len (a_cons (e_var 0) a_nil)) e_int)
  (ss_one (s_set (i := 2) (e_op add_data (e_op mod_data (e_ix ix_data (e_var 0) (e_op mod_data (e_var 1) (e_callB len_data B.b_len (a_cons (e_var 0) a_nil)))) (e_op pow_data e_int e_int)) (e_op mul_data e_int (e_var 1))) sc__law_pen.nd))
  ss_nil)))
  (ss_cons (s_if (t_cmp ge_data (e_callB abs_data B.b_abs (a_cons (e_var 2) a_nil)) (e_op pow_data e_int e_int))
  (ss_one (s_ret (o_lst (a_cons (e_op sub_data (e_callB abs_data B.b_abs (a_cons (e_var 2) a_nil)) (e_op pow_data e_int e_int)) (a_cons (e_op mod_data (e_var 2) e_int) (a_cons e_int a_nil))))))
  ss_nil)
  (ss_one (s_ret (o_lst (a_cons e_int (a_cons (e_op add_data (e_op mod_data (e_var 2) e_int) (e_op mul_data e_int (e_var 1))) (a_cons e_int a_nil)))))))))
abbrev s__law_draw : Stmt := topS 11
abbrev N__law_draw : List Str := ["_law_pen_here", "_law_many", "_law_found", "_law_number_here"]
theorem sc__law_draw : FnScope N__law_draw ["_law_pen_here", "_law_many"] (defScope s__law_draw) := ⟨rfl, rfl, rfl, by decide +kernel, rfl, by decide +kernel, by decide +kernel⟩
noncomputable def b__law_draw : M Fl := (sSeq (sPut' 0 (M.ret (.int 2)) (bin addD (eIxS 0 (M.ret (.int 2))) (M.ret (.int 1))))
  (sSeq (sIf (tBool (bin gtD (eIxS 0 (M.ret (.int 0))) (M.ret (.int 0))))
  (sSeq (sSet 2 (bin modD (eIxS 0 (M.ret (.int 0))) (getS 1)))
  (sSeq (sPut' 0 (M.ret (.int 0)) (bin fdivLD (eIxS 0 (M.ret (.int 0))) (getS 1)))
  (sRet ((getS 2).bind fun d => M.ret (.v d)))))
  sNil)
  (sSeq (sSet 3 (bin modD (bin mulD (bin addD (bin addD (eIxS 0 (M.ret (.int 1))) (bin mulD (M.ret (.int 50021)) (eIxS 0 (M.ret (.int 2))))) (M.ret (.int 19))) (M.ret (.int 48271))) (M.ret (.int 2147483647))))
  (sSeq (sSet 3 (bin modD (bin addD (bin mulD (getS 3) (getS 3)) (bin mulD (M.ret (.int 69621)) (eIxS 0 (M.ret (.int 2))))) (M.ret (.int 2147483629))))
  (sRet ((bin modD (bin fdivLD (bin modD (bin mulD (getS 3) (bin addD (bin modD (getS 3) (M.ret (.int 65521))) (M.ret (.int 5)))) (M.ret (.int 2147483587))) (M.ret (.int 64))) (getS 1)).bind fun d => M.ret (.v d)))))))
noncomputable def m__law_draw : List Sl → Re RV := fnOf 4 b__law_draw
theorem ok__law_draw {f : Addr} {fd : FuncData} (Fu : FnP K "_law_draw" s__law_draw f fd) (B : Bz K w mg) (NS : SeerK P base) : FnG P w K mg base 1 f fd ["_law_pen_here", "_law_many"] (spG K mg 2 m__law_draw) :=
  mk_fn Fu sc__law_draw fun cdv A outer s H E hr =>
  (ss_cons (s_put 0 e_int (e_op add_data (e_ixS 0 e_int hr.u1) e_int) hr.u1)
  (ss_cons (s_if (t_cmp gt_data (e_ixS 0 e_int hr.u1) e_int)
  (ss_cons (s_set (i := 2) (e_op mod_data (e_ixS 0 e_int hr.u1) (e_var 1)) sc__law_draw.nd)
  (ss_cons (s_put 0 e_int (e_op (fdivL_data hr NS) (e_ixS 0 e_int hr.u1) (e_var 1)) hr.u1)
  (ss_one (s_ret (o_val (e_var 2))))))
  ss_nil)
  (ss_cons (s_set (i := 3) (e_op mod_data (e_op mul_data (e_op add_data (e_op add_data (e_ixS 0 e_int hr.u1) (e_op mul_data e_int (e_ixS 0 e_int hr.u1))) e_int) e_int) e_int) sc__law_draw.nd)
  (ss_cons (s_set (i := 3) (e_op mod_data (e_op add_data (e_op mul_data (e_var 3) (e_var 3)) (e_op mul_data e_int (e_ixS 0 e_int hr.u1))) e_int) sc__law_draw.nd)
  (ss_one (s_ret (o_val (e_op mod_data (e_op (fdivL_data hr NS) (e_op mod_data (e_op mul_data (e_var 3) (e_op add_data (e_op mod_data (e_var 3) e_int) e_int)) e_int) e_int) (e_var 1)))))))))
abbrev s__law_mixed : Stmt := topS 15
abbrev N__law_mixed : List Str := ["_law_wide", "_law_numbers", "_law_rows_here", "_law_found", "_law_number_here", "_law_row", "_law_at"]
theorem sc__law_mixed : FnScope N__law_mixed ["_law_wide", "_law_numbers", "_law_rows_here"] (defScope s__law_mixed) := ⟨rfl, rfl, rfl, by decide +kernel, rfl, by decide +kernel, by decide +kernel⟩
noncomputable def b__law_mixed : M Fl := (sSeq (sSetO 3 (binO mulO (frzM (oLst (aCons (M.ret (.int 0)) aNil))) (getS 0)))
  (sSeq (sFor (iBy zipMx (aCons (getS 1) (aCons (getS 2) aNil))) (gT (gCn (gN 4) (gCn (gN 5) gNl)))
  (sFor (iBy rng1 (aCons (getS 0) aNil)) (gN 6)
  (sPut' 3 (getS 6) (bin addD (eIxS 3 (getS 6)) (bin mulD (getS 4) (bin ixD (getS 5) (getS 6)))))))
  (sRet ((eTupS 3).bind fun d => M.ret (.v d)))))
noncomputable def m__law_mixed : List Sl → Re RV := fnOf 7 b__law_mixed
theorem ok__law_mixed {f : Addr} {fd : FuncData} (Fu : FnP K "_law_mixed" s__law_mixed f fd) (B : Bz K w mg) (NS : SeerK P base) : FnG P w K mg base 1 f fd ["_law_wide", "_law_numbers", "_law_rows_here"] (spG K mg 3 m__law_mixed) :=
  mk_fn Fu sc__law_mixed fun cdv A outer s H E hr =>
  (ss_cons (s_setO (i := 3) (o_mul (e_val (o_lst (a_cons e_int a_nil))) (e_var 0)) sc__law_mixed.nd)
  (ss_cons (s_for (i_zipM (a_cons (e_var 1) (a_cons (e_var 2) a_nil)) B.b_zip) (g_tup (g_cons (g_name 4 sc__law_mixed.nd) (g_cons (g_name 5 sc__law_mixed.nd) g_nil)) (gCn_len (gCn_len gNl_len)))
  (ss_one (s_for (i_rng1 (a_cons (e_var 0) a_nil) B.b_range) (g_name 6 sc__law_mixed.nd)
  (ss_one (s_put 3 (e_var 6) (e_op add_data (e_ixS 3 (e_var 6) hr.u1) (e_op mul_data (e_var 4) (e_ix ix_data (e_var 5) (e_var 6)))) hr.u1)) (passes_of rfl))) (passes_of rfl))
  (ss_one (s_ret (o_val (e_tupS 3 B.b_tuple))))))
abbrev s__law_foot : Stmt := topS 16
abbrev N__law_foot : List Str := ["_law_row", "_law_at"]
theorem sc__law_foot : FnScope N__law_foot ["_law_row"] (defScope s__law_foot) := ⟨rfl, rfl, rfl, by decide +kernel, rfl, by decide +kernel, by decide +kernel⟩
noncomputable def b__law_foot : M Fl := (sSeq (sSet 1 (M.ret (.int 0)))
  (sSeq (sWhile (tAndM (tBool (bin ltD (getS 1) (nry (one lenD) (aCons (getS 0) aNil)))) (tBool (bin eqD (bin ixD (getS 0) (getS 1)) (M.ret (.int 0)))))
  (sSet 1 (bin addD (getS 1) (M.ret (.int 1)))))
  (sRet ((getS 1).bind fun d => M.ret (.v d)))))
noncomputable def m__law_foot : List Sl → Re RV := fnOf 2 b__law_foot
theorem ok__law_foot {f : Addr} {fd : FuncData} (Fu : FnP K "_law_foot" s__law_foot f fd) (B : Bz K w mg) (NS : SeerK P base) : FnG P w K mg base 1 f fd ["_law_row"] (spG K mg 1 m__law_foot) :=
  mk_fn Fu sc__law_foot fun cdv A outer s H E hr =>
  (ss_cons (s_set (i := 1) e_int sc__law_foot.nd)
  (ss_cons (s_while (PW.pt (w_and (t_cmp lt_data (e_var 1) (e_callB len_data B.b_len (a_cons (e_var 0) a_nil))) (w_and1 (t_cmp (eq_data hr.units) (e_ix ix_data (e_var 0) (e_var 1)) e_int))))
  (ss_one (s_set (i := 1) (e_op add_data (e_var 1) e_int) sc__law_foot.nd)) (passes_of rfl))
  (ss_one (s_ret (o_val (e_var 1))))))
abbrev s__law_is_reached : Stmt := topS 19
abbrev N__law_is_reached : List Str := ["_law_basis_here", "_law_word_here", "_law_at", "_law_row", "_law_often", "_law_a", "_law_b"]
theorem sc__law_is_reached : FnScope N__law_is_reached ["_law_basis_here", "_law_word_here"] (defScope s__law_is_reached) := ⟨rfl, rfl, rfl, by decide +kernel, rfl, by decide +kernel, by decide +kernel⟩
noncomputable def b__law_is_reached : M Fl := (sSeq (sFor (iBy rng1 (aCons (nry (one lenD) (aCons (getS 1) aNil)) aNil)) (gN 2)
  (sIf (tBool (bin neD (bin ixD (getS 1) (getS 2)) (M.ret (.int 0))))
  (sSeq (sSet 3 (eGet 0 (getS 2) (M.ret .none)))
  (sSeq (sIf (tOrM (tBool (bin isD (getS 3) (M.ret .none))) (tBool (bin neD (bin modD (bin ixD (getS 1) (getS 2)) (bin ixD (getS 3) (getS 2))) (M.ret (.int 0)))))
  (sRet ((M.ret (.bool false)).bind fun d => M.ret (.v d)))
  sNil)
  (sSeq (sSet 4 (bin fdivLD (bin ixD (getS 1) (getS 2)) (bin ixD (getS 3) (getS 2))))
  (sSet 1 (nry (one tupD) (aCons (frzM (oComp (iBy zipOf (aCons (getS 1) (aCons (getS 3) aNil))) [5, 6] (gT (gCn (gN 5) (gCn (gN 6) gNl))) yes (bin subD (getS 5) (bin mulD (getS 4) (getS 6))))) aNil))))))
  sNil))
  (sRet ((M.ret (.bool true)).bind fun d => M.ret (.v d))))
noncomputable def m__law_is_reached : List Sl → Re RV := fnOf 7 b__law_is_reached
theorem ok__law_is_reached {f : Addr} {fd : FuncData} (Fu : FnP K "_law_is_reached" s__law_is_reached f fd) (B : Bz K w mg) (NS : SeerK P base) : FnG P w K mg base 1 f fd ["_law_basis_here", "_law_word_here"] (spG K mg 2 m__law_is_reached) :=
  mk_fn Fu sc__law_is_reached fun cdv A outer s H E hr =>
  (ss_cons (s_for (i_rng1 (a_cons (e_callB len_data B.b_len (a_cons (e_var 1) a_nil)) a_nil) B.b_range) (g_name 2 sc__law_is_reached.nd)
  (ss_one (s_if (t_cmp (ne_data hr.units) (e_ix ix_data (e_var 1) (e_var 2)) e_int)
  (ss_cons (s_set (i := 3) (e_get 0 (e_var 2) e_non hr.u1) sc__law_is_reached.nd)
  (ss_cons (s_if (PW.pt (w_or (t_cmp is_data (e_var 3) e_non) (w_or1 (t_cmp (ne_data hr.units) (e_op mod_data (e_ix ix_data (e_var 1) (e_var 2)) (e_ix ix_data (e_var 3) (e_var 2))) e_int))))
  (ss_one (s_ret (o_val e_bl)))
  ss_nil)
  (ss_cons (s_set (i := 4) (e_op (fdivL_data hr NS) (e_ix ix_data (e_var 1) (e_var 2)) (e_ix ix_data (e_var 3) (e_var 2))) sc__law_is_reached.nd)
  (ss_one (s_set (i := 1) (e_callT tup_data B.b_tuple (a_cons (e_val (o_lc (own := [("_law_a", 5), ("_law_b", 6)]) (i_zip (a_cons (e_var 1) (a_cons (e_var 3) a_nil)) B.b_zip) (blkOk_by (show blkC N__law_is_reached (defScope s__law_is_reached) _ [("_law_a", 5), ("_law_b", 6)] = true from by decide +kernel)) (fun _ _ _ _ _ => (g_tup (g_cons (g_name 5 sc__law_is_reached.nd) (g_cons (g_name 6 sc__law_is_reached.nd) g_nil)) (gCn_len (gCn_len gNl_len)))) (fun _ _ _ _ _ => ts_nil) (fun _ _ _ _ _ => (e_op sub_data (e_var 5) (e_op mul_data (e_var 4) (e_var 6)))) sc__law_is_reached.nd)) a_nil)) sc__law_is_reached.nd)))))
  ss_nil)) (passes_of rfl))
  (ss_one (s_ret (o_val e_bl))))
abbrev s_one_gathered : Stmt := topS 6
abbrev N_one_gathered : List Str := ["pairs", "at", "some", "rest", "first", "others", "pair"]
theorem sc_one_gathered : FnScope N_one_gathered ["pairs", "at"] (defScope s_one_gathered) := ⟨rfl, rfl, rfl, by decide +kernel, rfl, by decide +kernel, by decide +kernel⟩
noncomputable def b_one_gathered : M Fl := (sSeq (sSetO 2 (oComp (iSeq (getS 0)) [6] (gN 6) (tBool (bin neD (bin ixD (bin ixD (getS 6) (M.ret (.int 0))) (getS 1)) (M.ret (.int 0)))) (getS 6)))
  (sSeq (sSet 3 (frzM (oComp (iSeq (getS 0)) [6] (gN 6) (tBool (bin eqD (bin ixD (bin ixD (getS 6) (M.ret (.int 0))) (getS 1)) (M.ret (.int 0)))) (getS 6))))
  (sSeq (sWhile (tBool (bin gtD (eLenS 2) (M.ret (.int 1))))
  (sSeq (sSet 4 (frzM (cCallBn 2 m_nearest_pair (aCons (getS 1) aNil))))
  (sSeq (sDrop (eRemove 2 (getS 4)))
  (sSeq (frz 2 (sSet 5 (frzM (oComp (iSeq (getS 2)) [6] (gN 6) yes (frzM (cCall m_pair_less (aCons (getS 6) (aCons (getS 4) (aCons (bin fdivLD (bin ixD (bin ixD (getS 6) (M.ret (.int 0))) (getS 1)) (bin ixD (bin ixD (getS 4) (M.ret (.int 0))) (getS 1))) aNil)))))))))
  (sSeq (sSet 3 (bin addD (getS 3) (frzM (oComp (iSeq (getS 5)) [6] (gN 6) (tBool (bin eqD (bin ixD (bin ixD (getS 6) (M.ret (.int 0))) (getS 1)) (M.ret (.int 0)))) (getS 6)))))
  (sSetO 2 (binO addO (frzM (oLst (aCons (getS 4) aNil))) (frzM (oComp (iSeq (getS 5)) [6] (gN 6) (tBool (bin neD (bin ixD (bin ixD (getS 6) (M.ret (.int 0))) (getS 1)) (M.ret (.int 0)))) (getS 6))))))))))
  (sSeq (sIf (tBool (eqS 2 (frzM (oLst aNil))))
  (sRet ((eTup (aCons (M.ret .none) (aCons (getS 3) aNil))).bind fun d => M.ret (.v d)))
  sNil)
  (sSeq (sSet 4 (eIxS 2 (M.ret (.int 0))))
  (sSeq (sIf (tBool (bin ltD (bin ixD (bin ixD (getS 4) (M.ret (.int 0))) (getS 1)) (M.ret (.int 0))))
  (sSet 4 (frzM (cCall m_pair_less (aCons (getS 4) (aCons (getS 4) (aCons (M.ret (.int 2)) aNil))))))
  sNil)
  (sRet ((eTup (aCons (getS 4) (aCons (getS 3) aNil))).bind fun d => M.ret (.v d)))))))))
noncomputable def m_one_gathered : List Sl → Re RV := fnOf 7 b_one_gathered
theorem ok_one_gathered {f : Addr} {fd : FuncData} (Fu : FnP K "one_gathered" s_one_gathered f fd) (B : Bz K w mg) (NS : SeerK P base) (G_nearest_pair : Fn P w K mg base 1 "nearest_pair" 2 m_nearest_pair) (G_pair_less : Fn P w K mg base 1 "pair_less" 3 m_pair_less) : FnG P w K mg base 2 f fd ["pairs", "at"] (spG K mg 2 m_one_gathered) :=
  mk_fn Fu sc_one_gathered fun cdv A outer s H E hr =>
  (ss_cons (s_setLc (i := 2) (own := [("pair", 6)]) (i_seq (e_var 0)) (blkOk_by (show blkC N_one_gathered (defScope s_one_gathered) _ [("pair", 6)] = true from by decide +kernel)) (fun _ _ _ _ _ => (g_name 6 sc_one_gathered.nd)) (fun _ _ _ _ _ => (ts_one (t_cmp (ne_data hr.units) (e_ix ix_data (e_ix ix_data (e_var 6) e_int) (e_var 1)) e_int))) (fun _ _ _ _ _ => (e_var 6)) sc_one_gathered.nd)
  (ss_cons (s_setLcV (i := 3) (own := [("pair", 6)]) (i_seq (e_var 0)) (blkOk_by (show blkC N_one_gathered (defScope s_one_gathered) _ [("pair", 6)] = true from by decide +kernel)) (fun _ _ _ _ _ => (g_name 6 sc_one_gathered.nd)) (fun _ _ _ _ _ => (ts_one (t_cmp (eq_data hr.units) (e_ix ix_data (e_ix ix_data (e_var 6) e_int) (e_var 1)) e_int))) (fun _ _ _ _ _ => (e_var 6)) sc_one_gathered.nd)
  (ss_cons (s_while (t_cmp gt_data (e_lenS 2 B.b_len) e_int)
  (ss_cons (s_set (i := 4) (e_val (o_callBn 2 G_nearest_pair (hr.mono (by decide : 1 ≤ 1)) (takes_of rfl rfl rfl rfl) (a_cons (e_var 1) a_nil) (fun r ds r' h => congrArg Nat.succ ((aCons_len aNil_len) r ds r' h)))) sc_one_gathered.nd)
  (ss_cons (s_expr (e_remove 2 (e_var 4) hr))
  (ss_cons (s_frz 2 (s_setLcV (i := 5) (own := [("pair", 6)]) (i_seq (e_var 2)) (blkOk_by (show blkC N_one_gathered (defScope s_one_gathered) _ [("pair", 6)] = true from by decide +kernel)) (fun _ _ _ _ _ => (g_name 6 sc_one_gathered.nd)) (fun _ _ _ _ _ => ts_nil) (fun _ _ _ _ _ => (e_val (o_call G_pair_less (hr.mono (by decide : 1 ≤ 1)) takes0 (a_cons (e_var 6) (a_cons (e_var 4) (a_cons (e_op (fdivL_data hr NS) (e_ix ix_data (e_ix ix_data (e_var 6) e_int) (e_var 1)) (e_ix ix_data (e_ix ix_data (e_var 4) e_int) (e_var 1))) a_nil))) (hnm := (aCons_len (aCons_len (aCons_len aNil_len))))))) sc_one_gathered.nd))
  (ss_cons (s_set (i := 3) (e_op add_data (e_var 3) (e_val (o_lc (own := [("pair", 6)]) (i_seq (e_var 5)) (blkOk_by (show blkC N_one_gathered (defScope s_one_gathered) _ [("pair", 6)] = true from by decide +kernel)) (fun _ _ _ _ _ => (g_name 6 sc_one_gathered.nd)) (fun _ _ _ _ _ => (ts_one (t_cmp (eq_data hr.units) (e_ix ix_data (e_ix ix_data (e_var 6) e_int) (e_var 1)) e_int))) (fun _ _ _ _ _ => (e_var 6)) sc_one_gathered.nd))) sc_one_gathered.nd)
  (ss_one (s_setO (i := 2) (o_add (e_val (o_lst (a_cons (e_var 4) a_nil))) (e_val (o_lc (own := [("pair", 6)]) (i_seq (e_var 5)) (blkOk_by (show blkC N_one_gathered (defScope s_one_gathered) _ [("pair", 6)] = true from by decide +kernel)) (fun _ _ _ _ _ => (g_name 6 sc_one_gathered.nd)) (fun _ _ _ _ _ => (ts_one (t_cmp (ne_data hr.units) (e_ix ix_data (e_ix ix_data (e_var 6) e_int) (e_var 1)) e_int))) (fun _ _ _ _ _ => (e_var 6)) sc_one_gathered.nd))) sc_one_gathered.nd)))))) (passes_of rfl))
  (ss_cons (s_if (t_eqS 2 (e_val (o_lst a_nil)) hr.units)
  (ss_one (s_ret (o_val (e_tup (a_cons e_non (a_cons (e_var 3) a_nil))))))
  ss_nil)
  (ss_cons (s_set (i := 4) (e_ixS 2 e_int hr.u1) sc_one_gathered.nd)
  (ss_cons (s_if (t_cmp lt_data (e_ix ix_data (e_ix ix_data (e_var 4) e_int) (e_var 1)) e_int)
  (ss_one (s_set (i := 4) (e_val (o_call G_pair_less (hr.mono (by decide : 1 ≤ 1)) (takes_of rfl rfl rfl rfl) (a_cons (e_var 4) (a_cons (e_var 4) (a_cons e_int a_nil))) (hnm := (aCons_len (aCons_len (aCons_len aNil_len)))))) sc_one_gathered.nd))
  ss_nil)
  (ss_one (s_ret (o_val (e_tup (a_cons (e_var 4) (a_cons (e_var 3) a_nil))))))))))))
abbrev s__law_number : Stmt := topS 12
abbrev N__law_number : List Str := ["_law_pen_here", "_law_way", "_law_sign", "_law_far"]
theorem sc__law_number : FnScope N__law_number ["_law_pen_here", "_law_way"] (defScope s__law_number) := ⟨rfl, rfl, rfl, by decide +kernel, rfl, by decide +kernel, by decide +kernel⟩
noncomputable def b__law_number : M Fl := (sSeq (sSet 2 (bin subD (M.ret (.int 1)) (bin mulD (M.ret (.int 2)) (frzM (cCallI 0 m__law_draw (aCons (M.ret (.int 2)) aNil))))))
  (sSeq (sIf (tBool (bin ltD (getS 1) (M.ret (.int 4))))
  (sRet ((bin mulD (getS 2) (frzM (cCallI 0 m__law_draw (aCons (bin ixD (frzM (oLst (aCons (M.ret (.int 4)) (aCons (M.ret (.int 4)) (aCons (M.ret (.int 2)) (aCons (M.ret (.int 13)) (aCons (M.ret (.int 100)) aNil))))))) (frzM (cCallI 0 m__law_draw (aCons (M.ret (.int 5)) aNil)))) aNil)))).bind fun d => M.ret (.v d)))
  sNil)
  (sSeq (sIf (tBool (bin ltD (getS 1) (M.ret (.int 6))))
  (sSeq (sSet 3 (frzM (cCallI 0 m__law_draw (aCons (M.ret (.int 1000)) aNil))))
  (sRet ((bin mulD (getS 2) (bin ixD (frzM (oLst (aCons (getS 3) (aCons (bin subD (bin subD (bin powD (M.ret (.int 10)) (M.ret (.int 6))) (M.ret (.int 1))) (getS 3)) (aCons (bin subD (bin subD (bin powD (M.ret (.int 10)) (M.ret (.int 9))) (M.ret (.int 1))) (getS 3)) aNil))))) (frzM (cCallI 0 m__law_draw (aCons (M.ret (.int 3)) aNil))))).bind fun d => M.ret (.v d))))
  sNil)
  (sRet ((bin mulD (getS 2) (nry (one intD) (aCons (bin eqD (frzM (cCallI 0 m__law_draw (aCons (M.ret (.int 4)) aNil))) (M.ret (.int 0))) aNil))).bind fun d => M.ret (.v d))))))
noncomputable def m__law_number : List Sl → Re RV := fnOf 4 b__law_number
theorem ok__law_number {f : Addr} {fd : FuncData} (Fu : FnP K "_law_number" s__law_number f fd) (B : Bz K w mg) (NS : SeerK P base) (G__law_draw : Fn P w K mg base 1 "_law_draw" 2 m__law_draw) : FnG P w K mg base 2 f fd ["_law_pen_here", "_law_way"] (spG K mg 2 m__law_number) :=
  mk_fn Fu sc__law_number fun cdv A outer s H E hr =>
  (ss_cons (s_set (i := 2) (e_op sub_data e_int (e_op mul_data e_int (e_val (o_callI 0 G__law_draw (hr.mono (by decide : 1 ≤ 1)) (takes_of rfl rfl rfl rfl) (a_cons e_int a_nil) (fun r ds r' h => congrArg Nat.succ ((aCons_len aNil_len) r ds r' h)))))) sc__law_number.nd)
  (ss_cons (s_if (t_cmp lt_data (e_var 1) e_int)
  (ss_one (s_ret (o_val (e_op mul_data (e_var 2) (e_val (o_callI 0 G__law_draw (hr.mono (by decide : 1 ≤ 1)) (takes_of rfl rfl rfl rfl) (a_cons (e_ix ix_data (e_val (o_lst (a_cons e_int (a_cons e_int (a_cons e_int (a_cons e_int (a_cons e_int a_nil))))))) (e_val (o_callI 0 G__law_draw (hr.mono (by decide : 1 ≤ 1)) (takes_of rfl rfl rfl rfl) (a_cons e_int a_nil) (fun r ds r' h => congrArg Nat.succ ((aCons_len aNil_len) r ds r' h))))) a_nil) (fun r ds r' h => congrArg Nat.succ ((aCons_len aNil_len) r ds r' h))))))))
  ss_nil)
  (ss_cons (s_if (t_cmp lt_data (e_var 1) e_int)
  (ss_cons (s_set (i := 3) (e_val (o_callI 0 G__law_draw (hr.mono (by decide : 1 ≤ 1)) (takes_of rfl rfl rfl rfl) (a_cons e_int a_nil) (fun r ds r' h => congrArg Nat.succ ((aCons_len aNil_len) r ds r' h)))) sc__law_number.nd)
  (ss_one (s_ret (o_val (e_op mul_data (e_var 2) (e_ix ix_data (e_val (o_lst (a_cons (e_var 3) (a_cons (e_op sub_data (e_op sub_data (e_op pow_data e_int e_int) e_int) (e_var 3)) (a_cons (e_op sub_data (e_op sub_data (e_op pow_data e_int e_int) e_int) (e_var 3)) a_nil))))) (e_val (o_callI 0 G__law_draw (hr.mono (by decide : 1 ≤ 1)) (takes_of rfl rfl rfl rfl) (a_cons e_int a_nil) (fun r ds r' h => congrArg Nat.succ ((aCons_len aNil_len) r ds r' h))))))))))
  ss_nil)
  (ss_one (s_ret (o_val (e_op mul_data (e_var 2) (e_callT int_data B.b_int (a_cons (e_cmp (eq_data hr.units) (e_val (o_callI 0 G__law_draw (hr.mono (by decide : 1 ≤ 1)) (takes_of rfl rfl rfl rfl) (a_cons e_int a_nil) (fun r ds r' h => congrArg Nat.succ ((aCons_len aNil_len) r ds r' h)))) e_int) a_nil)))))))))
abbrev s__law_slanted : Stmt := topS 13
abbrev N__law_slanted : List Str := ["_law_pen_here", "_law_wide", "_law_k", "_law_row"]
theorem sc__law_slanted : FnScope N__law_slanted ["_law_pen_here", "_law_wide", "_law_k"] (defScope s__law_slanted) := ⟨rfl, rfl, rfl, by decide +kernel, rfl, by decide +kernel, by decide +kernel⟩
noncomputable def b__law_slanted : M Fl := (sSeq (sSetO 3 (binO mulO (frzM (oLst (aCons (M.ret (.int 0)) aNil))) (getS 1)))
  (sSeq (sPut' 3 (bin modD (getS 2) (getS 1)) (bin addD (M.ret (.int 1)) (frzM (cCallI 0 m__law_draw (aCons (M.ret (.int 6)) aNil)))))
  (sSeq (sPut' 3 (bin modD (bin addD (getS 2) (M.ret (.int 1))) (getS 1)) (bin subD (frzM (cCallI 0 m__law_draw (aCons (M.ret (.int 7)) aNil))) (M.ret (.int 3))))
  (sRet ((eTupS 3).bind fun d => M.ret (.v d))))))
noncomputable def m__law_slanted : List Sl → Re RV := fnOf 4 b__law_slanted
theorem ok__law_slanted {f : Addr} {fd : FuncData} (Fu : FnP K "_law_slanted" s__law_slanted f fd) (B : Bz K w mg) (NS : SeerK P base) (G__law_draw : Fn P w K mg base 1 "_law_draw" 2 m__law_draw) : FnG P w K mg base 2 f fd ["_law_pen_here", "_law_wide", "_law_k"] (spG K mg 3 m__law_slanted) :=
  mk_fn Fu sc__law_slanted fun cdv A outer s H E hr =>
  (ss_cons (s_setO (i := 3) (o_mul (e_val (o_lst (a_cons e_int a_nil))) (e_var 1)) sc__law_slanted.nd)
  (ss_cons (s_put 3 (e_op mod_data (e_var 2) (e_var 1)) (e_op add_data e_int (e_val (o_callI 0 G__law_draw (hr.mono (by decide : 1 ≤ 1)) (takes_of rfl rfl rfl rfl) (a_cons e_int a_nil) (fun r ds r' h => congrArg Nat.succ ((aCons_len aNil_len) r ds r' h))))) hr.u1)
  (ss_cons (s_put 3 (e_op mod_data (e_op add_data (e_var 2) e_int) (e_var 1)) (e_op sub_data (e_val (o_callI 0 G__law_draw (hr.mono (by decide : 1 ≤ 1)) (takes_of rfl rfl rfl rfl) (a_cons e_int a_nil) (fun r ds r' h => congrArg Nat.succ ((aCons_len aNil_len) r ds r' h)))) e_int) hr.u1)
  (ss_one (s_ret (o_val (e_tupS 3 B.b_tuple)))))))
abbrev s__law_put_in : Stmt := topS 17
abbrev N__law_put_in : List Str := ["_law_basis_here", "_law_row", "_law_at", "_law_other", "_law_often", "_law_rest", "_law_a", "_law_b"]
theorem sc__law_put_in : FnScope N__law_put_in ["_law_basis_here", "_law_row"] (defScope s__law_put_in) := ⟨rfl, rfl, rfl, by decide +kernel, rfl, by decide +kernel, by decide +kernel⟩
noncomputable def b__law_put_in : M Fl := (sSeq (sSet 2 (frzM (cCall m__law_foot (aCons (getS 1) aNil))))
  (sWhile (tBool (bin ltD (getS 2) (nry (one lenD) (aCons (getS 1) aNil))))
  (sSeq (sSet 3 (eGet 0 (getS 2) (M.ret .none)))
  (sSeq (sIf (tBool (bin isD (getS 3) (M.ret .none)))
  (sSeq (sPut' 0 (getS 2) (getS 1))
  (M.ret (.rt (.v .none))))
  sNil)
  (sSeq (sWhile (tBool (bin neD (bin ixD (getS 1) (getS 2)) (M.ret (.int 0))))
  (sSeq (sSet 4 (bin fdivLD (bin ixD (getS 3) (getS 2)) (bin ixD (getS 1) (getS 2))))
  (sSeq (sSet 5 (nry (one tupD) (aCons (frzM (oComp (iBy zipOf (aCons (getS 3) (aCons (getS 1) aNil))) [6, 7] (gT (gCn (gN 6) (gCn (gN 7) gNl))) yes (bin subD (getS 6) (bin mulD (getS 4) (getS 7))))) aNil)))
  (sSeq (sSet 3 (getS 1))
  (sSet 1 (getS 5))))))
  (sSeq (sPut' 0 (getS 2) (getS 3))
  (sSet 2 (frzM (cCall m__law_foot (aCons (getS 1) aNil))))))))))
noncomputable def m__law_put_in : List Sl → Re RV := fnOf 8 b__law_put_in
theorem ok__law_put_in {f : Addr} {fd : FuncData} (Fu : FnP K "_law_put_in" s__law_put_in f fd) (B : Bz K w mg) (NS : SeerK P base) (G__law_foot : Fn P w K mg base 1 "_law_foot" 1 m__law_foot) : FnG P w K mg base 2 f fd ["_law_basis_here", "_law_row"] (spG K mg 2 m__law_put_in) :=
  mk_fn Fu sc__law_put_in fun cdv A outer s H E hr =>
  (ss_cons (s_set (i := 2) (e_val (o_call G__law_foot (hr.mono (by decide : 1 ≤ 1)) (takes_of rfl rfl rfl rfl) (a_cons (e_var 1) a_nil) (hnm := (aCons_len aNil_len)))) sc__law_put_in.nd)
  (ss_one (s_while (t_cmp lt_data (e_var 2) (e_callB len_data B.b_len (a_cons (e_var 1) a_nil)))
  (ss_cons (s_set (i := 3) (e_get 0 (e_var 2) e_non hr.u1) sc__law_put_in.nd)
  (ss_cons (s_if (t_cmp is_data (e_var 3) e_non)
  (ss_cons (s_put 0 (e_var 2) (e_var 1) hr.u1)
  (ss_one s_retN))
  ss_nil)
  (ss_cons (s_while (t_cmp (ne_data hr.units) (e_ix ix_data (e_var 1) (e_var 2)) e_int)
  (ss_cons (s_set (i := 4) (e_op (fdivL_data hr NS) (e_ix ix_data (e_var 3) (e_var 2)) (e_ix ix_data (e_var 1) (e_var 2))) sc__law_put_in.nd)
  (ss_cons (s_set (i := 5) (e_callT tup_data B.b_tuple (a_cons (e_val (o_lc (own := [("_law_a", 6), ("_law_b", 7)]) (i_zip (a_cons (e_var 3) (a_cons (e_var 1) a_nil)) B.b_zip) (blkOk_by (show blkC N__law_put_in (defScope s__law_put_in) _ [("_law_a", 6), ("_law_b", 7)] = true from by decide +kernel)) (fun _ _ _ _ _ => (g_tup (g_cons (g_name 6 sc__law_put_in.nd) (g_cons (g_name 7 sc__law_put_in.nd) g_nil)) (gCn_len (gCn_len gNl_len)))) (fun _ _ _ _ _ => ts_nil) (fun _ _ _ _ _ => (e_op sub_data (e_var 6) (e_op mul_data (e_var 4) (e_var 7)))) sc__law_put_in.nd)) a_nil)) sc__law_put_in.nd)
  (ss_cons (s_set (i := 3) (e_var 1) sc__law_put_in.nd)
  (ss_one (s_set (i := 1) (e_var 5) sc__law_put_in.nd))))) (passes_of rfl))
  (ss_cons (s_put 0 (e_var 2) (e_var 3) hr.u1)
  (ss_one (s_set (i := 2) (e_val (o_call G__law_foot (hr.mono (by decide : 1 ≤ 1)) (takes_of rfl rfl rfl rfl) (a_cons (e_var 1) a_nil) (hnm := (aCons_len aNil_len)))) sc__law_put_in.nd)))))) (passes_of rfl))))
abbrev s__law_word : Stmt := topS 20
abbrev N__law_word : List Str := ["_law_pen_here", "_law_wide", "_law_rows_here", "_law_way", "_law_far", "_law_numbers", "_law_word_here", "_law_at", "_law_row", "_law_number_here"]
theorem sc__law_word : FnScope N__law_word ["_law_pen_here", "_law_wide", "_law_rows_here", "_law_way"] (defScope s__law_word) := ⟨rfl, rfl, rfl, by decide +kernel, rfl, by decide +kernel, by decide +kernel⟩
noncomputable def b__law_word : M Fl := (sSeq (sIf (tBool (bin eqD (getS 3) (M.ret (.int 3))))
  (sSeq (sSet 4 (bin ixD (frzM (oLst (aCons (M.ret (.int 9)) (aCons (bin powD (M.ret (.int 10)) (M.ret (.int 8))) aNil)))) (frzM (cCallI 0 m__law_draw (aCons (M.ret (.int 2)) aNil)))))
  (sRet ((nry (one tupD) (aCons (frzM (oComp (iBy rng1 (aCons (getS 1) aNil)) [7] (gN 7) yes (bin subD (frzM (cCallI 0 m__law_draw (aCons (bin addD (bin mulD (M.ret (.int 2)) (getS 4)) (M.ret (.int 1))) aNil))) (getS 4)))) aNil)).bind fun d => M.ret (.v d))))
  sNil)
  (sSeq (sSet 4 (bin ixD (frzM (oLst (aCons (M.ret (.int 9)) (aCons (M.ret (.int 9)) (aCons (bin subD (bin powD (M.ret (.int 10)) (M.ret (.int 14))) (M.ret (.int 1))) aNil))))) (frzM (cCallI 0 m__law_draw (aCons (M.ret (.int 3)) aNil)))))
  (sSeq (sSet 5 (frzM (oComp (iSeq (getS 2)) [8] (gN 8) yes (bin subD (frzM (cCallI 0 m__law_draw (aCons (bin addD (bin mulD (M.ret (.int 2)) (getS 4)) (M.ret (.int 1))) aNil))) (getS 4)))))
  (sSeq (sSet 6 (frzM (cCall m__law_mixed (aCons (getS 1) (aCons (getS 5) (aCons (getS 2) aNil))))))
  (sSeq (sIf (tAndM (tBool (bin eqD (getS 3) (M.ret (.int 1)))) (tBool (bin gtD (getS 1) (M.ret (.int 0)))))
  (sSeq (sSet 7 (frzM (cCallI 0 m__law_draw (aCons (getS 1) aNil))))
  (sSet 6 (bin addD (bin addD (eSl (getS 6) pNone (pSome (getS 7))) (eTup (aCons (bin subD (bin addD (bin ixD (getS 6) (getS 7)) (M.ret (.int 1))) (bin mulD (M.ret (.int 2)) (frzM (cCallI 0 m__law_draw (aCons (M.ret (.int 2)) aNil))))) aNil))) (eSl (getS 6) (pSome (bin addD (getS 7) (M.ret (.int 1)))) pNone))))
  sNil)
  (sSeq (sIf (tBool (bin eqD (getS 3) (M.ret (.int 2))))
  (sSet 6 (nry (one tupD) (aCons (frzM (oComp (iSeq (getS 6)) [9] (gN 9) yes (bin fdivLD (getS 9) (M.ret (.int 2))))) aNil)))
  sNil)
  (sSeq (sIf (tAndM (tBool (bin eqD (getS 3) (M.ret (.int 0)))) (tBool (bin eqD (frzM (cCallI 0 m__law_draw (aCons (M.ret (.int 6)) aNil))) (M.ret (.int 0)))))
  (sSet 6 (bin mulD (eTup (aCons (M.ret (.int 0)) aNil)) (getS 1)))
  sNil)
  (sRet ((getS 6).bind fun d => M.ret (.v d))))))))))
noncomputable def m__law_word : List Sl → Re RV := fnOf 10 b__law_word
theorem ok__law_word {f : Addr} {fd : FuncData} (Fu : FnP K "_law_word" s__law_word f fd) (B : Bz K w mg) (NS : SeerK P base) (G__law_draw : Fn P w K mg base 1 "_law_draw" 2 m__law_draw) (G__law_mixed : Fn P w K mg base 1 "_law_mixed" 3 m__law_mixed) : FnG P w K mg base 2 f fd ["_law_pen_here", "_law_wide", "_law_rows_here", "_law_way"] (spG K mg 4 m__law_word) :=
  mk_fn Fu sc__law_word fun cdv A outer s H E hr =>
  (ss_cons (s_if (t_cmp (eq_data hr.units) (e_var 3) e_int)
  (ss_cons (s_set (i := 4) (e_ix ix_data (e_val (o_lst (a_cons e_int (a_cons (e_op pow_data e_int e_int) a_nil)))) (e_val (o_callI 0 G__law_draw (hr.mono (by decide : 1 ≤ 1)) (takes_of rfl rfl rfl rfl) (a_cons e_int a_nil) (fun r ds r' h => congrArg Nat.succ ((aCons_len aNil_len) r ds r' h))))) sc__law_word.nd)
  (ss_one (s_ret (o_val (e_callT tup_data B.b_tuple (a_cons (e_val (o_lc (own := [("_law_at", 7)]) (i_rng1 (a_cons (e_var 1) a_nil) B.b_range) (blkOk_by (show blkC N__law_word (defScope s__law_word) _ [("_law_at", 7)] = true from by decide +kernel)) (fun _ _ _ _ _ => (g_name 7 sc__law_word.nd)) (fun _ _ _ _ _ => ts_nil) (fun _ _ _ _ _ => (e_op sub_data (e_val (o_callI 0 G__law_draw (hr.mono (by decide : 1 ≤ 1)) takes0 (a_cons (e_op add_data (e_op mul_data e_int (e_var 4)) e_int) a_nil) (fun r ds r' h => congrArg Nat.succ ((aCons_len aNil_len) r ds r' h)))) (e_var 4))) sc__law_word.nd)) a_nil))))))
  ss_nil)
  (ss_cons (s_set (i := 4) (e_ix ix_data (e_val (o_lst (a_cons e_int (a_cons e_int (a_cons (e_op sub_data (e_op pow_data e_int e_int) e_int) a_nil))))) (e_val (o_callI 0 G__law_draw (hr.mono (by decide : 1 ≤ 1)) (takes_of rfl rfl rfl rfl) (a_cons e_int a_nil) (fun r ds r' h => congrArg Nat.succ ((aCons_len aNil_len) r ds r' h))))) sc__law_word.nd)
  (ss_cons (s_setLcV (i := 5) (own := [("_law_row", 8)]) (i_seq (e_var 2)) (blkOk_by (show blkC N__law_word (defScope s__law_word) _ [("_law_row", 8)] = true from by decide +kernel)) (fun _ _ _ _ _ => (g_name 8 sc__law_word.nd)) (fun _ _ _ _ _ => ts_nil) (fun _ _ _ _ _ => (e_op sub_data (e_val (o_callI 0 G__law_draw (hr.mono (by decide : 1 ≤ 1)) takes0 (a_cons (e_op add_data (e_op mul_data e_int (e_var 4)) e_int) a_nil) (fun r ds r' h => congrArg Nat.succ ((aCons_len aNil_len) r ds r' h)))) (e_var 4))) sc__law_word.nd)
  (ss_cons (s_set (i := 6) (e_val (o_call G__law_mixed (hr.mono (by decide : 1 ≤ 1)) (takes_of rfl rfl rfl rfl) (a_cons (e_var 1) (a_cons (e_var 5) (a_cons (e_var 2) a_nil))) (hnm := (aCons_len (aCons_len (aCons_len aNil_len)))))) sc__law_word.nd)
  (ss_cons (s_if (PW.pt (w_and (t_cmp (eq_data hr.units) (e_var 3) e_int) (w_and1 (t_cmp gt_data (e_var 1) e_int))))
  (ss_cons (s_set (i := 7) (e_val (o_callI 0 G__law_draw (hr.mono (by decide : 1 ≤ 1)) (takes_of rfl rfl rfl rfl) (a_cons (e_var 1) a_nil) (fun r ds r' h => congrArg Nat.succ ((aCons_len aNil_len) r ds r' h)))) sc__law_word.nd)
  (ss_one (s_set (i := 6) (e_op add_data (e_op add_data (e_sl (e_var 6) p_none (p_some (e_var 7))) (e_tup (a_cons (e_op sub_data (e_op add_data (e_ix ix_data (e_var 6) (e_var 7)) e_int) (e_op mul_data e_int (e_val (o_callI 0 G__law_draw (hr.mono (by decide : 1 ≤ 1)) (takes_of rfl rfl rfl rfl) (a_cons e_int a_nil) (fun r ds r' h => congrArg Nat.succ ((aCons_len aNil_len) r ds r' h)))))) a_nil))) (e_sl (e_var 6) (p_some (e_op add_data (e_var 7) e_int)) p_none)) sc__law_word.nd)))
  ss_nil)
  (ss_cons (s_if (t_cmp (eq_data hr.units) (e_var 3) e_int)
  (ss_one (s_set (i := 6) (e_callT tup_data B.b_tuple (a_cons (e_val (o_lc (own := [("_law_number_here", 9)]) (i_seq (e_var 6)) (blkOk_by (show blkC N__law_word (defScope s__law_word) _ [("_law_number_here", 9)] = true from by decide +kernel)) (fun _ _ _ _ _ => (g_name 9 sc__law_word.nd)) (fun _ _ _ _ _ => ts_nil) (fun _ _ _ _ _ => (e_op (fdivL_data hr NS) (e_var 9) e_int)) sc__law_word.nd)) a_nil)) sc__law_word.nd))
  ss_nil)
  (ss_cons (s_if (PW.pt (w_and (t_cmp (eq_data hr.units) (e_var 3) e_int) (w_and1 (t_cmp (eq_data hr.units) (e_val (o_callI 0 G__law_draw (hr.mono (by decide : 1 ≤ 1)) (takes_of rfl rfl rfl rfl) (a_cons e_int a_nil) (fun r ds r' h => congrArg Nat.succ ((aCons_len aNil_len) r ds r' h)))) e_int))))
  (ss_one (s_set (i := 6) (e_op mul_data (e_tup (a_cons e_int a_nil)) (e_var 1)) sc__law_word.nd))
  ss_nil)
  (ss_one (s_ret (o_val (e_var 6)))))))))))
abbrev s_stair_pairs : Stmt := topS 7
abbrev N_stair_pairs : List Str := ["wide", "rows", "left", "done", "at", "first", "row", "pair"]
theorem sc_stair_pairs : FnScope N_stair_pairs ["wide", "rows"] (defScope s_stair_pairs) := ⟨rfl, rfl, rfl, by decide +kernel, rfl, by decide +kernel, by decide +kernel⟩
noncomputable def b_stair_pairs : M Fl := (sSeq (sSet 2 (frzM (oComp (iBy enOf (aCons (getS 1) aNil)) [4, 6] (gT (gCn (gN 4) (gCn (gN 6) gNl))) yes (eTup (aCons (getS 6) (aCons (frzM (cCall m_unit_row (aCons (nry (one lenD) (aCons (getS 1) aNil)) (aCons (getS 4) aNil)))) aNil))))))
  (sSeq (sSet 3 (frzM (oLst aNil)))
  (sSeq (sFor (iBy rng1 (aCons (getS 0) aNil)) (gN 4)
  (sSeq (sAsg (gT (gCn (gN 5) (gCn (gN 2) gNl))) (frzM (cCall m_one_gathered (aCons (getS 2) (aCons (getS 4) aNil)))))
  (sIf (tBool (bin isntD (getS 5) (M.ret .none)))
  (sSet 3 (bin addD (frzM (oComp (iSeq (getS 3)) [7] (gN 7) yes (frzM (cCall m_pair_less (aCons (getS 7) (aCons (getS 5) (aCons (bin fdivLD (bin ixD (bin ixD (getS 7) (M.ret (.int 0))) (getS 4)) (bin ixD (bin ixD (getS 5) (M.ret (.int 0))) (getS 4))) aNil))))))) (frzM (oLst (aCons (getS 5) aNil)))))
  sNil)))
  (sRet ((getS 3).bind fun d => M.ret (.v d))))))
noncomputable def m_stair_pairs : List Sl → Re RV := fnOf 8 b_stair_pairs
theorem ok_stair_pairs {f : Addr} {fd : FuncData} (Fu : FnP K "stair_pairs" s_stair_pairs f fd) (B : Bz K w mg) (NS : SeerK P base) (G_unit_row : Fn P w K mg base 1 "unit_row" 2 m_unit_row) (G_one_gathered : Fn P w K mg base 2 "one_gathered" 2 m_one_gathered) (G_pair_less : Fn P w K mg base 1 "pair_less" 3 m_pair_less) : FnG P w K mg base 3 f fd ["wide", "rows"] (spG K mg 2 m_stair_pairs) :=
  mk_fn Fu sc_stair_pairs fun cdv A outer s H E hr =>
  (ss_cons (s_setLcV (i := 2) (own := [("at", 4), ("row", 6)]) (i_enum (a_cons (e_var 1) a_nil) B.b_enumerate) (blkOk_by (show blkC N_stair_pairs (defScope s_stair_pairs) _ [("at", 4), ("row", 6)] = true from by decide +kernel)) (fun _ _ _ _ _ => (g_tup (g_cons (g_name 4 sc_stair_pairs.nd) (g_cons (g_name 6 sc_stair_pairs.nd) g_nil)) (gCn_len (gCn_len gNl_len)))) (fun _ _ _ _ _ => ts_nil) (fun _ _ _ _ _ => (e_tup (a_cons (e_var 6) (a_cons (e_val (o_call G_unit_row (hr.mono (by decide : 1 ≤ 2)) takes0 (a_cons (e_callB len_data B.b_len (a_cons (e_var 1) a_nil)) (a_cons (e_var 4) a_nil)) (hnm := (aCons_len (aCons_len aNil_len))))) a_nil)))) sc_stair_pairs.nd)
  (ss_cons (s_set (i := 3) (e_val (o_lst a_nil)) sc_stair_pairs.nd)
  (ss_cons (s_for (i_rng1 (a_cons (e_var 0) a_nil) B.b_range) (g_name 4 sc_stair_pairs.nd)
  (ss_cons (s_asg (e_val (o_call G_one_gathered (hr.mono (by decide : 2 ≤ 2)) (takes_of rfl rfl rfl rfl) (a_cons (e_var 2) (a_cons (e_var 4) a_nil)) (hnm := (aCons_len (aCons_len aNil_len))))) (g_tup (g_cons (g_name 5 sc_stair_pairs.nd) (g_cons (g_name 2 sc_stair_pairs.nd) g_nil)) (gCn_len (gCn_len gNl_len))))
  (ss_one (s_if (t_cmp isnt_data (e_var 5) e_non)
  (ss_one (s_set (i := 3) (e_op add_data (e_val (o_lc (own := [("pair", 7)]) (i_seq (e_var 3)) (blkOk_by (show blkC N_stair_pairs (defScope s_stair_pairs) _ [("pair", 7)] = true from by decide +kernel)) (fun _ _ _ _ _ => (g_name 7 sc_stair_pairs.nd)) (fun _ _ _ _ _ => ts_nil) (fun _ _ _ _ _ => (e_val (o_call G_pair_less (hr.mono (by decide : 1 ≤ 2)) takes0 (a_cons (e_var 7) (a_cons (e_var 5) (a_cons (e_op (fdivL_data hr NS) (e_ix ix_data (e_ix ix_data (e_var 7) e_int) (e_var 4)) (e_ix ix_data (e_ix ix_data (e_var 5) e_int) (e_var 4))) a_nil))) (hnm := (aCons_len (aCons_len (aCons_len aNil_len))))))) sc_stair_pairs.nd)) (e_val (o_lst (a_cons (e_var 5) a_nil)))) sc_stair_pairs.nd))
  ss_nil))) (passes_of rfl))
  (ss_one (s_ret (o_val (e_var 3)))))))
abbrev s__law_rows : Stmt := topS 14
abbrev N__law_rows : List Str := ["_law_pen_here", "_law_most", "_law_way", "_law_wide", "_law_found", "_law_k", "_law_row", "_law_odd", "_law_other", "_law_many", "_law_at", "_law_number_here"]
theorem sc__law_rows : FnScope N__law_rows ["_law_pen_here", "_law_most"] (defScope s__law_rows) := ⟨rfl, rfl, rfl, by decide +kernel, rfl, by decide +kernel, by decide +kernel⟩
noncomputable def b__law_rows : M Fl := (sSeq (sSet 2 (frzM (cCallI 0 m__law_draw (aCons (getS 1) aNil))))
  (sSeq (sSet 3 (bin addD (bin ixD (frzM (oLst (aCons (M.ret (.int 0)) (aCons (M.ret (.int 0)) (aCons (M.ret (.int 0)) (aCons (M.ret (.int 0)) (aCons (M.ret (.int 1)) (aCons (M.ret (.int 0)) (aCons (M.ret (.int 5)) (aCons (M.ret (.int 5)) aNil)))))))))) (getS 2)) (frzM (cCallI 0 m__law_draw (aCons (bin ixD (frzM (oLst (aCons (M.ret (.int 5)) (aCons (M.ret (.int 5)) (aCons (M.ret (.int 5)) (aCons (M.ret (.int 5)) (aCons (M.ret (.int 2)) (aCons (M.ret (.int 7)) (aCons (M.ret (.int 10)) (aCons (M.ret (.int 10)) aNil)))))))))) (getS 2)) aNil)))))
  (sSeq (sSetO 4 (oLst aNil))
  (sSeq (sFor (iBy rng1 (aCons (frzM (cCallI 0 m__law_draw (aCons (bin ixD (frzM (oLst (aCons (M.ret (.int 6)) (aCons (M.ret (.int 6)) (aCons (M.ret (.int 6)) (aCons (M.ret (.int 6)) (aCons (M.ret (.int 6)) (aCons (M.ret (.int 3)) (aCons (M.ret (.int 15)) (aCons (M.ret (.int 15)) aNil)))))))))) (getS 2)) aNil))) aNil)) (gN 5)
  (sSeq (sIf (tBool (bin eqD (getS 2) (M.ret (.int 7))))
  (sSet 6 (frzM (cCallI 0 m__law_slanted (aCons (getS 3) (aCons (getS 5) aNil)))))
  (sSet 6 (nry (one tupD) (aCons (frzM (oComp (iBy rng1 (aCons (getS 3) aNil)) [10] (gN 10) yes (frzM (cCallI 0 m__law_number (aCons (getS 2) aNil))))) aNil))))
  (sSeq (sSet 7 (frzM (cCallI 0 m__law_draw (aCons (M.ret (.int 8)) aNil))))
  (sSeq (sIf (tBool (bin eqD (getS 7) (M.ret (.int 0))))
  (sSet 6 (bin mulD (eTup (aCons (M.ret (.int 0)) aNil)) (getS 3)))
  sNil)
  (sSeq (sIf (tAndM (tBool (bin eqD (getS 7) (M.ret (.int 1)))) (tBool (neS 4 (frzM (oLst aNil)))))
  (sSeq (sSet 8 (eIxS 4 (frzM (cCallI 0 m__law_draw (aCons (eLenS 4) aNil)))))
  (sSeq (sSet 9 (bin ixD (frzM (oLst (aCons (M.ret (.int 1)) (aCons (una negD (M.ret (.int 1))) (aCons (M.ret (.int 2)) (aCons (M.ret (.int 0)) aNil)))))) (frzM (cCallI 0 m__law_draw (aCons (M.ret (.int 4)) aNil)))))
  (sSet 6 (nry (one tupD) (aCons (frzM (oComp (iSeq (getS 8)) [11] (gN 11) yes (bin mulD (getS 9) (getS 11)))) aNil)))))
  sNil)
  (sAppend 4 (getS 6)))))))
  (sRet ((eTup (aCons (getS 3) (aCons (eTupS 4) aNil))).bind fun d => M.ret (.v d)))))))
noncomputable def m__law_rows : List Sl → Re RV := fnOf 12 b__law_rows
theorem ok__law_rows {f : Addr} {fd : FuncData} (Fu : FnP K "_law_rows" s__law_rows f fd) (B : Bz K w mg) (NS : SeerK P base) (G__law_draw : Fn P w K mg base 1 "_law_draw" 2 m__law_draw) (G__law_slanted : Fn P w K mg base 2 "_law_slanted" 3 m__law_slanted) (G__law_number : Fn P w K mg base 2 "_law_number" 2 m__law_number) : FnG P w K mg base 3 f fd ["_law_pen_here", "_law_most"] (spG K mg 2 m__law_rows) :=
  mk_fn Fu sc__law_rows fun cdv A outer s H E hr =>
  (ss_cons (s_set (i := 2) (e_val (o_callI 0 G__law_draw (hr.mono (by decide : 1 ≤ 2)) (takes_of rfl rfl rfl rfl) (a_cons (e_var 1) a_nil) (fun r ds r' h => congrArg Nat.succ ((aCons_len aNil_len) r ds r' h)))) sc__law_rows.nd)
  (ss_cons (s_set (i := 3) (e_op add_data (e_ix ix_data (e_val (o_lst (a_cons e_int (a_cons e_int (a_cons e_int (a_cons e_int (a_cons e_int (a_cons e_int (a_cons e_int (a_cons e_int a_nil)))))))))) (e_var 2)) (e_val (o_callI 0 G__law_draw (hr.mono (by decide : 1 ≤ 2)) (takes_of rfl rfl rfl rfl) (a_cons (e_ix ix_data (e_val (o_lst (a_cons e_int (a_cons e_int (a_cons e_int (a_cons e_int (a_cons e_int (a_cons e_int (a_cons e_int (a_cons e_int a_nil)))))))))) (e_var 2)) a_nil) (fun r ds r' h => congrArg Nat.succ ((aCons_len aNil_len) r ds r' h))))) sc__law_rows.nd)
  (ss_cons (s_setO (i := 4) (o_lst a_nil) sc__law_rows.nd)
  (ss_cons (s_for (i_rng1 (a_cons (e_val (o_callI 0 G__law_draw (hr.mono (by decide : 1 ≤ 2)) (takes_of rfl rfl rfl rfl) (a_cons (e_ix ix_data (e_val (o_lst (a_cons e_int (a_cons e_int (a_cons e_int (a_cons e_int (a_cons e_int (a_cons e_int (a_cons e_int (a_cons e_int a_nil)))))))))) (e_var 2)) a_nil) (fun r ds r' h => congrArg Nat.succ ((aCons_len aNil_len) r ds r' h)))) a_nil) B.b_range) (g_name 5 sc__law_rows.nd)
  (ss_cons (s_if (t_cmp (eq_data hr.units) (e_var 2) e_int)
  (ss_one (s_set (i := 6) (e_val (o_callI 0 G__law_slanted (hr.mono (by decide : 2 ≤ 2)) (takes_of rfl rfl rfl rfl) (a_cons (e_var 3) (a_cons (e_var 5) a_nil)) (fun r ds r' h => congrArg Nat.succ ((aCons_len (aCons_len aNil_len)) r ds r' h)))) sc__law_rows.nd))
  (ss_one (s_set (i := 6) (e_callT tup_data B.b_tuple (a_cons (e_val (o_lc (own := [("_law_at", 10)]) (i_rng1 (a_cons (e_var 3) a_nil) B.b_range) (blkOk_by (show blkC N__law_rows (defScope s__law_rows) _ [("_law_at", 10)] = true from by decide +kernel)) (fun _ _ _ _ _ => (g_name 10 sc__law_rows.nd)) (fun _ _ _ _ _ => ts_nil) (fun _ _ _ _ _ => (e_val (o_callI 0 G__law_number (hr.mono (by decide : 2 ≤ 2)) takes0 (a_cons (e_var 2) a_nil) (fun r ds r' h => congrArg Nat.succ ((aCons_len aNil_len) r ds r' h))))) sc__law_rows.nd)) a_nil)) sc__law_rows.nd)))
  (ss_cons (s_set (i := 7) (e_val (o_callI 0 G__law_draw (hr.mono (by decide : 1 ≤ 2)) (takes_of rfl rfl rfl rfl) (a_cons e_int a_nil) (fun r ds r' h => congrArg Nat.succ ((aCons_len aNil_len) r ds r' h)))) sc__law_rows.nd)
  (ss_cons (s_if (t_cmp (eq_data hr.units) (e_var 7) e_int)
  (ss_one (s_set (i := 6) (e_op mul_data (e_tup (a_cons e_int a_nil)) (e_var 3)) sc__law_rows.nd))
  ss_nil)
  (ss_cons (s_if (PW.pt (w_and (t_cmp (eq_data hr.units) (e_var 7) e_int) (w_and1 (t_neS 4 (e_val (o_lst a_nil)) hr.units))))
  (ss_cons (s_set (i := 8) (e_ixS 4 (e_val (o_callI 0 G__law_draw (hr.mono (by decide : 1 ≤ 2)) (takes_of rfl rfl rfl rfl) (a_cons (e_lenS 4 B.b_len) a_nil) (fun r ds r' h => congrArg Nat.succ ((aCons_len aNil_len) r ds r' h)))) hr.u1) sc__law_rows.nd)
  (ss_cons (s_set (i := 9) (e_ix ix_data (e_val (o_lst (a_cons e_int (a_cons (e_un neg_data e_int) (a_cons e_int (a_cons e_int a_nil)))))) (e_val (o_callI 0 G__law_draw (hr.mono (by decide : 1 ≤ 2)) (takes_of rfl rfl rfl rfl) (a_cons e_int a_nil) (fun r ds r' h => congrArg Nat.succ ((aCons_len aNil_len) r ds r' h))))) sc__law_rows.nd)
  (ss_one (s_set (i := 6) (e_callT tup_data B.b_tuple (a_cons (e_val (o_lc (own := [("_law_number_here", 11)]) (i_seq (e_var 8)) (blkOk_by (show blkC N__law_rows (defScope s__law_rows) _ [("_law_number_here", 11)] = true from by decide +kernel)) (fun _ _ _ _ _ => (g_name 11 sc__law_rows.nd)) (fun _ _ _ _ _ => ts_nil) (fun _ _ _ _ _ => (e_op mul_data (e_var 9) (e_var 11))) sc__law_rows.nd)) a_nil)) sc__law_rows.nd))))
  ss_nil)
  (ss_one (s_append 4 (e_var 6))))))) (passes_of rfl))
  (ss_one (s_ret (o_val (e_tup (a_cons (e_var 3) (a_cons (e_tupS 4 B.b_tuple) a_nil))))))))))
abbrev s__law_basis : Stmt := topS 18
abbrev N__law_basis : List Str := ["_law_rows_here", "_law_basis_here", "_law_row"]
theorem sc__law_basis : FnScope N__law_basis ["_law_rows_here"] (defScope s__law_basis) := ⟨rfl, rfl, rfl, by decide +kernel, rfl, by decide +kernel, by decide +kernel⟩
noncomputable def b__law_basis : M Fl := (sSeq (sSetO 1 oDict0)
  (sSeq (sFor (iSeq (getS 0)) (gN 2)
  (sDropO (cCallI 1 m__law_put_in (aCons (getS 2) aNil))))
  (sRet (takeS 1))))
noncomputable def m__law_basis : List Sl → Re RV := fnOf 3 b__law_basis
theorem ok__law_basis {f : Addr} {fd : FuncData} (Fu : FnP K "_law_basis" s__law_basis f fd) (B : Bz K w mg) (NS : SeerK P base) (G__law_put_in : Fn P w K mg base 2 "_law_put_in" 2 m__law_put_in) : FnG P w K mg base 3 f fd ["_law_rows_here"] (spG K mg 1 m__law_basis) :=
  mk_fn Fu sc__law_basis fun cdv A outer s H E hr =>
  (ss_cons (s_setO (i := 1) o_dict0 sc__law_basis.nd)
  (ss_cons (s_for (i_seq (e_var 0)) (g_name 2 sc__law_basis.nd)
  (ss_one (s_exprO (o_callI 1 G__law_put_in (hr.mono (by decide : 2 ≤ 2)) (takes_of rfl rfl rfl rfl) (a_cons (e_var 2) a_nil) (fun r ds r' h => congrArg Nat.succ ((aCons_len aNil_len) r ds r' h))))) (passes_of rfl))
  (ss_one (s_ret (o_take 1)))))
abbrev s_mixing : Stmt := topS 8
abbrev N_mixing : List Str := ["wide", "rows", "word", "left", "pair", "at", "number"]
theorem sc_mixing : FnScope N_mixing ["wide", "rows", "word"] (defScope s_mixing) := ⟨rfl, rfl, rfl, by decide +kernel, rfl, by decide +kernel, by decide +kernel⟩
noncomputable def b_mixing : M Fl := (sSeq (sSet 3 (eTup (aCons (getS 2) (aCons (bin mulD (eTup (aCons (M.ret (.int 0)) aNil)) (nry (one lenD) (aCons (getS 1) aNil))) aNil))))
  (sSeq (sFor (iSeq (frzM (cCall m_stair_pairs (aCons (getS 0) (aCons (getS 1) aNil))))) (gN 4)
  (sSeq (sSet 5 (frzM (cCall m_foot_of (aCons (bin ixD (getS 4) (M.ret (.int 0))) aNil))))
  (sSeq (sIf (tBool (bin neD (bin modD (bin ixD (bin ixD (getS 3) (M.ret (.int 0))) (getS 5)) (bin ixD (bin ixD (getS 4) (M.ret (.int 0))) (getS 5))) (M.ret (.int 0))))
  (sRet ((M.ret .none).bind fun d => M.ret (.v d)))
  sNil)
  (sSet 3 (frzM (cCall m_pair_less (aCons (getS 3) (aCons (getS 4) (aCons (bin fdivLD (bin ixD (bin ixD (getS 3) (M.ret (.int 0))) (getS 5)) (bin ixD (bin ixD (getS 4) (M.ret (.int 0))) (getS 5))) aNil)))))))))
  (sSeq (sIf (tBool (bin isntD (frzM (cCall m_foot_of (aCons (bin ixD (getS 3) (M.ret (.int 0))) aNil))) (M.ret .none)))
  (sRet ((M.ret .none).bind fun d => M.ret (.v d)))
  sNil)
  (sRet ((nry (one tupD) (aCons (frzM (oComp (iSeq (bin ixD (getS 3) (M.ret (.int 1)))) [6] (gN 6) yes (bin subD (M.ret (.int 0)) (getS 6)))) aNil)).bind fun d => M.ret (.v d))))))
noncomputable def m_mixing : List Sl → Re RV := fnOf 7 b_mixing
theorem ok_mixing {f : Addr} {fd : FuncData} (Fu : FnP K "mixing" s_mixing f fd) (B : Bz K w mg) (NS : SeerK P base) (G_stair_pairs : Fn P w K mg base 3 "stair_pairs" 2 m_stair_pairs) (G_foot_of : Fn P w K mg base 1 "foot_of" 1 m_foot_of) (G_pair_less : Fn P w K mg base 1 "pair_less" 3 m_pair_less) : FnG P w K mg base 4 f fd ["wide", "rows", "word"] (spG K mg 3 m_mixing) :=
  mk_fn Fu sc_mixing fun cdv A outer s H E hr =>
  (ss_cons (s_set (i := 3) (e_tup (a_cons (e_var 2) (a_cons (e_op mul_data (e_tup (a_cons e_int a_nil)) (e_callB len_data B.b_len (a_cons (e_var 1) a_nil))) a_nil))) sc_mixing.nd)
  (ss_cons (s_for (i_seq (e_val (o_call G_stair_pairs (hr.mono (by decide : 3 ≤ 3)) (takes_of rfl rfl rfl rfl) (a_cons (e_var 0) (a_cons (e_var 1) a_nil)) (hnm := (aCons_len (aCons_len aNil_len)))))) (g_name 4 sc_mixing.nd)
  (ss_cons (s_set (i := 5) (e_val (o_call G_foot_of (hr.mono (by decide : 1 ≤ 3)) (takes_of rfl rfl rfl rfl) (a_cons (e_ix ix_data (e_var 4) e_int) a_nil) (hnm := (aCons_len aNil_len)))) sc_mixing.nd)
  (ss_cons (s_if (t_cmp (ne_data hr.units) (e_op mod_data (e_ix ix_data (e_ix ix_data (e_var 3) e_int) (e_var 5)) (e_ix ix_data (e_ix ix_data (e_var 4) e_int) (e_var 5))) e_int)
  (ss_one (s_ret (o_val e_non)))
  ss_nil)
  (ss_one (s_set (i := 3) (e_val (o_call G_pair_less (hr.mono (by decide : 1 ≤ 3)) (takes_of rfl rfl rfl rfl) (a_cons (e_var 3) (a_cons (e_var 4) (a_cons (e_op (fdivL_data hr NS) (e_ix ix_data (e_ix ix_data (e_var 3) e_int) (e_var 5)) (e_ix ix_data (e_ix ix_data (e_var 4) e_int) (e_var 5))) a_nil))) (hnm := (aCons_len (aCons_len (aCons_len aNil_len)))))) sc_mixing.nd)))) (passes_of rfl))
  (ss_cons (s_if (t_cmp isnt_data (e_val (o_call G_foot_of (hr.mono (by decide : 1 ≤ 3)) (takes_of rfl rfl rfl rfl) (a_cons (e_ix ix_data (e_var 3) e_int) a_nil) (hnm := (aCons_len aNil_len)))) e_non)
  (ss_one (s_ret (o_val e_non)))
  ss_nil)
  (ss_one (s_ret (o_val (e_callT tup_data B.b_tuple (a_cons (e_val (o_lc (own := [("number", 6)]) (i_seq (e_ix ix_data (e_var 3) e_int)) (blkOk_by (show blkC N_mixing (defScope s_mixing) _ [("number", 6)] = true from by decide +kernel)) (fun _ _ _ _ _ => (g_name 6 sc_mixing.nd)) (fun _ _ _ _ _ => ts_nil) (fun _ _ _ _ _ => (e_op sub_data e_int (e_var 6))) sc_mixing.nd)) a_nil))))))))
abbrev s__law_right : Stmt := topS 21
abbrev N__law_right : List Str := ["_law_wide", "_law_rows_here", "_law_basis_here", "_law_word_here", "_law_found", "_law_number_here"]
theorem sc__law_right : FnScope N__law_right ["_law_wide", "_law_rows_here", "_law_basis_here", "_law_word_here"] (defScope s__law_right) := ⟨rfl, rfl, rfl, by decide +kernel, rfl, by decide +kernel, by decide +kernel⟩
noncomputable def b__law_right : M Fl := (sSeq (sSet 4 (frzM (cCall m_mixing (aCons (getS 0) (aCons (getS 1) (aCons (getS 3) aNil))))))
  (sSeq (sIf (tNotM (tTru (frzM (cCallI 2 m__law_is_reached (aCons (getS 3) aNil)))))
  (sRet ((bin isD (getS 4) (M.ret .none)).bind fun d => M.ret (.v d)))
  sNil)
  (sSeq (sIf (tOrM (tNotM (tTru (una (isiD "tuple") (getS 4)))) (tBool (bin neD (nry (one lenD) (aCons (getS 4) aNil)) (nry (one lenD) (aCons (getS 1) aNil)))))
  (sRet ((M.ret (.bool false)).bind fun d => M.ret (.v d)))
  sNil)
  (sSeq (sIf (tBool (bin neD (frzM (oComp (iSeq (getS 4)) [5] (gN 5) (tOrM (tTru (una (isiD "bool") (getS 5))) (tNotM (tTru (una (isiD "int") (getS 5))))) (getS 5))) (frzM (oLst aNil))))
  (sRet ((M.ret (.bool false)).bind fun d => M.ret (.v d)))
  sNil)
  (sRet ((bin eqD (frzM (cCall m__law_mixed (aCons (getS 0) (aCons (getS 4) (aCons (getS 1) aNil))))) (getS 3)).bind fun d => M.ret (.v d)))))))
noncomputable def m__law_right : List Sl → Re RV := fnOf 6 b__law_right
theorem ok__law_right {f : Addr} {fd : FuncData} (Fu : FnP K "_law_right" s__law_right f fd) (B : Bz K w mg) (NS : SeerK P base) (G_mixing : Fn P w K mg base 4 "mixing" 3 m_mixing) (G__law_is_reached : Fn P w K mg base 1 "_law_is_reached" 2 m__law_is_reached) (G__law_mixed : Fn P w K mg base 1 "_law_mixed" 3 m__law_mixed) : FnG P w K mg base 5 f fd ["_law_wide", "_law_rows_here", "_law_basis_here", "_law_word_here"] (spG K mg 4 m__law_right) :=
  mk_fn Fu sc__law_right fun cdv A outer s H E hr =>
  (ss_cons (s_set (i := 4) (e_val (o_call G_mixing (hr.mono (by decide : 4 ≤ 4)) (takes_of rfl rfl rfl rfl) (a_cons (e_var 0) (a_cons (e_var 1) (a_cons (e_var 3) a_nil))) (hnm := (aCons_len (aCons_len (aCons_len aNil_len)))))) sc__law_right.nd)
  (ss_cons (s_if (t_not (t_tru (e_val (o_callI 2 G__law_is_reached (hr.mono (by decide : 1 ≤ 4)) (takes_of rfl rfl rfl rfl) (a_cons (e_var 3) a_nil) (fun r ds r' h => congrArg Nat.succ ((aCons_len aNil_len) r ds r' h))))))
  (ss_one (s_ret (o_val (e_cmp is_data (e_var 4) e_non))))
  ss_nil)
  (ss_cons (s_if (PW.pt (w_or (t_not (t_tru (e_isi (T := "tuple") (e_var 4) B.b_isinstance B.b_tuple))) (w_or1 (t_cmp (ne_data hr.units) (e_callB len_data B.b_len (a_cons (e_var 4) a_nil)) (e_callB len_data B.b_len (a_cons (e_var 1) a_nil))))))
  (ss_one (s_ret (o_val e_bl)))
  ss_nil)
  (ss_cons (s_if (t_cmp (ne_data hr.units) (e_val (o_lc (own := [("_law_number_here", 5)]) (i_seq (e_var 4)) (blkOk_by (show blkC N__law_right (defScope s__law_right) _ [("_law_number_here", 5)] = true from by decide +kernel)) (fun _ _ _ _ _ => (g_name 5 sc__law_right.nd)) (fun _ _ _ _ _ => (ts_one (PW.pt (w_or (t_tru (e_isi (T := "bool") (e_var 5) B.b_isinstance B.b_bool)) (w_or1 (t_not (t_tru (e_isi (T := "int") (e_var 5) B.b_isinstance B.b_int)))))))) (fun _ _ _ _ _ => (e_var 5)) sc__law_right.nd)) (e_val (o_lst a_nil)))
  (ss_one (s_ret (o_val e_bl)))
  ss_nil)
  (ss_one (s_ret (o_val (e_cmp (eq_data hr.units) (e_val (o_call G__law_mixed (hr.mono (by decide : 1 ≤ 4)) (takes_of rfl rfl rfl rfl) (a_cons (e_var 0) (a_cons (e_var 4) (a_cons (e_var 1) a_nil))) (hnm := (aCons_len (aCons_len (aCons_len aNil_len)))))) (e_var 3)))))))))
abbrev s_law : Stmt := topS 22
abbrev N_law : List Str := ["_law_script", "_law_k", "_law_pen_here", "_law_wide", "_law_rows_here", "_law_basis_here", "_law_less", "_law_kept", "_law_one", "_law_great", "_law_way", "_law_word_here"]
theorem sc_law : FnScope N_law ["_law_script"] (defScope s_law) := ⟨rfl, rfl, rfl, by decide +kernel, rfl, by decide +kernel, by decide +kernel⟩
noncomputable def b_law : M Fl := (sSeq (sFor (iBy rng1 (aCons (nry (two maxD) (aCons (M.ret (.int 1)) (aCons (nry (two minD) (aCons (M.ret (.int 3)) (aCons (nry (one lenD) (aCons (getS 0) aNil)) aNil))) aNil))) aNil)) (gN 1)
  (sSeq (sSetO 2 (cCall m__law_pen (aCons (getS 0) (aCons (getS 1) aNil))))
  (sSeq (sAsg (gT (gCn (gN 3) (gCn (gN 4) gNl))) (frzM (cCallI 2 m__law_rows (aCons (bin ixD (frzM (oLst (aCons (M.ret (.int 8)) (aCons (M.ret (.int 6)) (aCons (M.ret (.int 6)) aNil))))) (getS 1)) aNil))))
  (sSeq (sSetO 5 (cCall m__law_basis (aCons (getS 4) aNil)))
  (sSeq (sSetO 6 (cCall m__law_basis (aCons (eSl (getS 4) pNone (pSome (una negD (M.ret (.int 1))))) aNil)))
  (sSeq (sSet 7 (nry (one reprD) (aCons (getS 4) aNil)))
  (sSeq (sSet 8 (frzM (cCallI 2 m__law_draw (aCons (M.ret (.int 4)) aNil))))
  (sSeq (sSet 9 (bin gtD (bin mulD (nry (one lenD) (aCons (getS 4) aNil)) (getS 3)) (M.ret (.int 40))))
  (sFor (iSeq (bin ixD (frzM (oLst (aCons (frzM (oLst (aCons (M.ret (.int 0)) (aCons (M.ret (.int 1)) (aCons (M.ret (.int 2)) (aCons (M.ret (.int 3)) aNil)))))) (aCons (frzM (oLst (aCons (getS 8) aNil))) aNil)))) (nry (one intD) (aCons (getS 9) aNil)))) (gN 10)
  (sSeq (sSet 11 (frzM (cCallI 2 m__law_word (aCons (getS 3) (aCons (getS 4) (aCons (getS 10) aNil))))))
  (sSeq (sIf (tOrM (tNotM (tTru (frzM (cCallA m__law_right [.d (getS 3), .d (getS 4), .l 5, .d (getS 11)])))) (tNotM (tTru (frzM (cCallA m__law_right [.d (getS 3), .d (eSl (getS 4) pNone (pSome (una negD (M.ret (.int 1))))), .l 6, .d (getS 11)])))))
  (sRet ((M.ret (.bool false)).bind fun d => M.ret (.v d)))
  sNil)
  (sIf (tOrM (tBool (bin neD (nry (one reprD) (aCons (getS 4) aNil)) (getS 7))) (tAndM (tNotM (tTru (getS 9))) (tNotM (tTru (frzM (cCallA m__law_right [.d (getS 3), .d (getS 4), .l 5, .d (getS 11)]))))))
  (sRet ((M.ret (.bool false)).bind fun d => M.ret (.v d)))
  sNil))))))))))))
  (sRet ((eAnd (bin eqD (frzM (cCall m_mixing (aCons (M.ret (.int 0)) (aCons (eTup aNil) (aCons (eTup aNil) aNil))))) (eTup aNil)) (eAnd (bin eqD (frzM (cCall m_mixing (aCons (M.ret (.int 2)) (aCons (eTup aNil) (aCons (eTup (aCons (M.ret (.int 0)) (aCons (M.ret (.int 0)) aNil))) aNil))))) (eTup aNil)) (bin isD (frzM (cCall m_mixing (aCons (M.ret (.int 2)) (aCons (eTup aNil) (aCons (eTup (aCons (M.ret (.int 0)) (aCons (M.ret (.int 1)) aNil))) aNil))))) (M.ret .none)))).bind fun d => M.ret (.v d))))
noncomputable def m_law : List Sl → Re RV := fnOf 12 b_law
theorem ok_law {f : Addr} {fd : FuncData} (Fu : FnP K "law" s_law f fd) (B : Bz K w mg) (NS : SeerK P base) (G__law_pen : Fn P w K mg base 1 "_law_pen" 2 m__law_pen) (G__law_rows : Fn P w K mg base 3 "_law_rows" 2 m__law_rows) (G__law_basis : Fn P w K mg base 3 "_law_basis" 1 m__law_basis) (G__law_draw : Fn P w K mg base 1 "_law_draw" 2 m__law_draw) (G__law_word : Fn P w K mg base 2 "_law_word" 4 m__law_word) (G__law_right : Fn P w K mg base 5 "_law_right" 4 m__law_right) (G_mixing : Fn P w K mg base 4 "mixing" 3 m_mixing) : FnG P w K mg base 6 f fd ["_law_script"] (spG K mg 1 m_law) :=
  mk_fn Fu sc_law fun cdv A outer s H E hr =>
  (ss_cons (s_for (i_rng1 (a_cons (e_callB max_data B.b_max (a_cons e_int (a_cons (e_callB min_data B.b_min (a_cons e_int (a_cons (e_callB len_data B.b_len (a_cons (e_var 0) a_nil)) a_nil))) a_nil))) a_nil) B.b_range) (g_name 1 sc_law.nd)
  (ss_cons (s_setO (i := 2) (o_call G__law_pen (hr.mono (by decide : 1 ≤ 5)) (takes_of rfl rfl rfl rfl) (a_cons (e_var 0) (a_cons (e_var 1) a_nil)) (hnm := (aCons_len (aCons_len aNil_len)))) sc_law.nd)
  (ss_cons (s_asg (e_val (o_callI 2 G__law_rows (hr.mono (by decide : 3 ≤ 5)) (takes_of rfl rfl rfl rfl) (a_cons (e_ix ix_data (e_val (o_lst (a_cons e_int (a_cons e_int (a_cons e_int a_nil))))) (e_var 1)) a_nil) (fun r ds r' h => congrArg Nat.succ ((aCons_len aNil_len) r ds r' h)))) (g_tup (g_cons (g_name 3 sc_law.nd) (g_cons (g_name 4 sc_law.nd) g_nil)) (gCn_len (gCn_len gNl_len))))
  (ss_cons (s_setO (i := 5) (o_call G__law_basis (hr.mono (by decide : 3 ≤ 5)) (takes_of rfl rfl rfl rfl) (a_cons (e_var 4) a_nil) (hnm := (aCons_len aNil_len))) sc_law.nd)
  (ss_cons (s_setO (i := 6) (o_call G__law_basis (hr.mono (by decide : 3 ≤ 5)) (takes_of rfl rfl rfl rfl) (a_cons (e_sl (e_var 4) p_none (p_some (e_un neg_data e_int))) a_nil) (hnm := (aCons_len aNil_len))) sc_law.nd)
  (ss_cons (s_set (i := 7) (e_callB (repr_data hr) B.b_repr (a_cons (e_var 4) a_nil)) sc_law.nd)
  (ss_cons (s_set (i := 8) (e_val (o_callI 2 G__law_draw (hr.mono (by decide : 1 ≤ 5)) (takes_of rfl rfl rfl rfl) (a_cons e_int a_nil) (fun r ds r' h => congrArg Nat.succ ((aCons_len aNil_len) r ds r' h)))) sc_law.nd)
  (ss_cons (s_set (i := 9) (e_cmp gt_data (e_op mul_data (e_callB len_data B.b_len (a_cons (e_var 4) a_nil)) (e_var 3)) e_int) sc_law.nd)
  (ss_one (s_for (i_seq (e_ix ix_data (e_val (o_lst (a_cons (e_val (o_lst (a_cons e_int (a_cons e_int (a_cons e_int (a_cons e_int a_nil)))))) (a_cons (e_val (o_lst (a_cons (e_var 8) a_nil))) a_nil)))) (e_callT int_data B.b_int (a_cons (e_var 9) a_nil)))) (g_name 10 sc_law.nd)
  (ss_cons (s_set (i := 11) (e_val (o_callI 2 G__law_word (hr.mono (by decide : 2 ≤ 5)) (takes_of rfl rfl rfl rfl) (a_cons (e_var 3) (a_cons (e_var 4) (a_cons (e_var 10) a_nil))) (fun r ds r' h => congrArg Nat.succ ((aCons_len (aCons_len (aCons_len aNil_len))) r ds r' h)))) sc_law.nd)
  (ss_cons (s_if (PW.pt (w_or (t_not (t_tru (e_val (o_callA G__law_right (hr.mono (by decide : 5 ≤ 5)) (takes_of rfl rfl rfl rfl) (z_d (e_var 3) (z_d (e_var 4) (z_l 5 (z_d (e_var 11) z_nil)))))))) (w_or1 (t_not (t_tru (e_val (o_callA G__law_right (hr.mono (by decide : 5 ≤ 5)) (takes_of rfl rfl rfl rfl) (z_d (e_var 3) (z_d (e_sl (e_var 4) p_none (p_some (e_un neg_data e_int))) (z_l 6 (z_d (e_var 11) z_nil)))))))))))
  (ss_one (s_ret (o_val e_bl)))
  ss_nil)
  (ss_one (s_if (PW.pt (w_or (t_cmp (ne_data hr.units) (e_callB (repr_data hr) B.b_repr (a_cons (e_var 4) a_nil)) (e_var 7)) (w_or1 (PW.pt (w_and (t_not (t_tru (e_var 9))) (w_and1 (t_not (t_tru (e_val (o_callA G__law_right (hr.mono (by decide : 5 ≤ 5)) (takes_of rfl rfl rfl rfl) (z_d (e_var 3) (z_d (e_var 4) (z_l 5 (z_d (e_var 11) z_nil))))))))))))))
  (ss_one (s_ret (o_val e_bl)))
  ss_nil)))) (passes_of rfl)))))))))) (passes_of rfl))
  (ss_one (s_ret (o_val (e_and (e_cmp (eq_data hr.units) (e_val (o_call G_mixing (hr.mono (by decide : 4 ≤ 5)) (takes_of rfl rfl rfl rfl) (a_cons e_int (a_cons (e_tup a_nil) (a_cons (e_tup a_nil) a_nil))) (hnm := (aCons_len (aCons_len (aCons_len aNil_len)))))) (e_tup a_nil)) (e_and (e_cmp (eq_data hr.units) (e_val (o_call G_mixing (hr.mono (by decide : 4 ≤ 5)) (takes_of rfl rfl rfl rfl) (a_cons e_int (a_cons (e_tup a_nil) (a_cons (e_tup (a_cons e_int (a_cons e_int a_nil))) a_nil))) (hnm := (aCons_len (aCons_len (aCons_len aNil_len)))))) (e_tup a_nil)) (e_one (e_cmp is_data (e_val (o_call G_mixing (hr.mono (by decide : 4 ≤ 5)) (takes_of rfl rfl rfl rfl) (a_cons e_int (a_cons (e_tup a_nil) (a_cons (e_tup (a_cons e_int (a_cons e_int a_nil))) a_nil))) (hnm := (aCons_len (aCons_len (aCons_len aNil_len)))))) e_non))))))))
end
/-! ### the head -/
def d_unit_row : He.DefD := ⟨("unit_row", none), "unit_row", "unit_row", defArgs s_unit_row, defBody s_unit_row, defScope s_unit_row, [], []⟩
def d_foot_of : He.DefD := ⟨("foot_of", none), "foot_of", "foot_of", defArgs s_foot_of, defBody s_foot_of, defScope s_foot_of, [], []⟩
def d_pair_less : He.DefD := ⟨("pair_less", none), "pair_less", "pair_less", defArgs s_pair_less, defBody s_pair_less, defScope s_pair_less, [], []⟩
def d_nearest_pair : He.DefD := ⟨("nearest_pair", none), "nearest_pair", "nearest_pair", defArgs s_nearest_pair, defBody s_nearest_pair, defScope s_nearest_pair, [], []⟩
def d__law_pen : He.DefD := ⟨("_law_pen", none), "_law_pen", "_law_pen", defArgs s__law_pen, defBody s__law_pen, defScope s__law_pen, [], []⟩
def d__law_draw : He.DefD := ⟨("_law_draw", none), "_law_draw", "_law_draw", defArgs s__law_draw, defBody s__law_draw, defScope s__law_draw, [], []⟩
def d__law_mixed : He.DefD := ⟨("_law_mixed", none), "_law_mixed", "_law_mixed", defArgs s__law_mixed, defBody s__law_mixed, defScope s__law_mixed, [], []⟩
def d__law_foot : He.DefD := ⟨("_law_foot", none), "_law_foot", "_law_foot", defArgs s__law_foot, defBody s__law_foot, defScope s__law_foot, [], []⟩
def d__law_is_reached : He.DefD := ⟨("_law_is_reached", none), "_law_is_reached", "_law_is_reached", defArgs s__law_is_reached, defBody s__law_is_reached, defScope s__law_is_reached, [], []⟩
def d_one_gathered : He.DefD := ⟨("one_gathered", none), "one_gathered", "one_gathered", defArgs s_one_gathered, defBody s_one_gathered, defScope s_one_gathered, [], []⟩
def d__law_number : He.DefD := ⟨("_law_number", none), "_law_number", "_law_number", defArgs s__law_number, defBody s__law_number, defScope s__law_number, [], []⟩
def d__law_slanted : He.DefD := ⟨("_law_slanted", none), "_law_slanted", "_law_slanted", defArgs s__law_slanted, defBody s__law_slanted, defScope s__law_slanted, [], []⟩
def d__law_put_in : He.DefD := ⟨("_law_put_in", none), "_law_put_in", "_law_put_in", defArgs s__law_put_in, defBody s__law_put_in, defScope s__law_put_in, [], []⟩
def d__law_word : He.DefD := ⟨("_law_word", none), "_law_word", "_law_word", defArgs s__law_word, defBody s__law_word, defScope s__law_word, [], []⟩
def d_stair_pairs : He.DefD := ⟨("stair_pairs", none), "stair_pairs", "stair_pairs", defArgs s_stair_pairs, defBody s_stair_pairs, defScope s_stair_pairs, [], []⟩
def d__law_rows : He.DefD := ⟨("_law_rows", none), "_law_rows", "_law_rows", defArgs s__law_rows, defBody s__law_rows, defScope s__law_rows, [], []⟩
def d__law_basis : He.DefD := ⟨("_law_basis", none), "_law_basis", "_law_basis", defArgs s__law_basis, defBody s__law_basis, defScope s__law_basis, [], []⟩
def d_mixing : He.DefD := ⟨("mixing", none), "mixing", "mixing", defArgs s_mixing, defBody s_mixing, defScope s_mixing, [], []⟩
def d__law_right : He.DefD := ⟨("_law_right", none), "_law_right", "_law_right", defArgs s__law_right, defBody s__law_right, defScope s__law_right, [], []⟩
def d_law : He.DefD := ⟨("law", none), "law", "law", defArgs s_law, defBody s_law, defScope s_law, [], []⟩
def fn : List He.DefD := [d_unit_row, d_foot_of, d_pair_less, d_nearest_pair, d__law_pen, d__law_draw, d__law_mixed, d__law_foot, d__law_is_reached, d_one_gathered, d__law_number, d__law_slanted, d__law_put_in, d__law_word, d_stair_pairs, d__law_rows, d__law_basis, d_mixing, d__law_right, d_law]
def fa : List He.Fa := [.glo "unit_row", .glo "foot_of", .glo "pair_less", .glo "nearest_pair", .glo "_law_pen", .glo "_law_draw", .glo "_law_mixed", .glo "_law_foot", .glo "_law_is_reached", .glo "one_gathered", .glo "_law_number", .glo "_law_slanted", .glo "_law_put_in", .glo "_law_word", .glo "stair_pairs", .glo "_law_rows", .glo "_law_basis", .glo "mixing", .glo "_law_right", .glo "law", .free "range", .free "int", .free "tuple", .free "enumerate", .free "zip", .free "abs", .free "len", .free "isinstance", .free "bool", .free "min", .free "max", .free "repr"]
abbrev R : PySem.W.OpenRow := PySem.W.OpenLaw.row PySem.Challenge.rw_commonhouse_k14_words_reached
abbrev hk : PySem.W.Hook := hookL 5 fa fn (fun _ => true) ln
def ob (s : PySem.W.SharedT) : AlB := obsLG 5 fa fn (fun _ => true) ln (HandSHeadRun.getT s)
theorem ob_eq (s : PySem.W.SharedT) : ob s = hk.obs s.abs := obsLG_eq (HandSHeadRun.getT_eq s)
abbrev lo0 : List Str := ["unit_row", "foot_of", "pair_less", "nearest_pair", "one_gathered", "stair_pairs", "mixing", "_law_pen", "_law_draw", "_law_number", "_law_slanted", "_law_rows", "_law_mixed", "_law_foot", "_law_put_in", "_law_basis", "_law_is_reached", "_law_word", "_law_right"]
abbrev lo : List Str := lo0
theorem run (w : World) : HandSHeadRun.RunEq R (PySem.W.view R.prog [22]) hk ob 15800 lo w := by
  intro os
  kernel_rfl
theorem facts {P : Program} {w : World} {K : PySem.W.Frag} {h : Heap} {mg : Str → Option Value} {f : Addr} (X : K.In h) (G : h.Ns mainGlobals mg) (hfa : mg ("law" : Str) = some (.ref f)) (hP : P.given.tree = none) (c0 : SaysB fa fn (fun _ => true) K) (l : LamOk ln K h) :
    ∃ fd : FuncData, (∀ (s : Shared) (v : Value), BindsTo s fd ⟨[v], []⟩ [("_law_script", v)]) ∧ ∀ base : Heap, K.In base → base.Ns mainGlobals mg → base.NoSeer → (∀ p ∈ csN ln K, LamX.TabB base mg p.1 p.2) → FnG P w K mg base 6 f fd ["_law_script"] (spG K mg 1 m_law) := by
  have c := c0.1
  obtain ⟨fd_unit_row, F_unit_row⟩ := c.def_ 0 (d := d_unit_row) rfl
  obtain ⟨fd_foot_of, F_foot_of⟩ := c.def_ 1 (d := d_foot_of) rfl
  obtain ⟨fd_pair_less, F_pair_less⟩ := c.def_ 2 (d := d_pair_less) rfl
  obtain ⟨fd_nearest_pair, F_nearest_pair⟩ := c.def_ 3 (d := d_nearest_pair) rfl
  obtain ⟨fd__law_pen, F__law_pen⟩ := c.def_ 4 (d := d__law_pen) rfl
  obtain ⟨fd__law_draw, F__law_draw⟩ := c.def_ 5 (d := d__law_draw) rfl
  obtain ⟨fd__law_mixed, F__law_mixed⟩ := c.def_ 6 (d := d__law_mixed) rfl
  obtain ⟨fd__law_foot, F__law_foot⟩ := c.def_ 7 (d := d__law_foot) rfl
  obtain ⟨fd__law_is_reached, F__law_is_reached⟩ := c.def_ 8 (d := d__law_is_reached) rfl
  obtain ⟨fd_one_gathered, F_one_gathered⟩ := c.def_ 9 (d := d_one_gathered) rfl
  obtain ⟨fd__law_number, F__law_number⟩ := c.def_ 10 (d := d__law_number) rfl
  obtain ⟨fd__law_slanted, F__law_slanted⟩ := c.def_ 11 (d := d__law_slanted) rfl
  obtain ⟨fd__law_put_in, F__law_put_in⟩ := c.def_ 12 (d := d__law_put_in) rfl
  obtain ⟨fd__law_word, F__law_word⟩ := c.def_ 13 (d := d__law_word) rfl
  obtain ⟨fd_stair_pairs, F_stair_pairs⟩ := c.def_ 14 (d := d_stair_pairs) rfl
  obtain ⟨fd__law_rows, F__law_rows⟩ := c.def_ 15 (d := d__law_rows) rfl
  obtain ⟨fd__law_basis, F__law_basis⟩ := c.def_ 16 (d := d__law_basis) rfl
  obtain ⟨fd_mixing, F_mixing⟩ := c.def_ 17 (d := d_mixing) rfl
  obtain ⟨fd__law_right, F__law_right⟩ := c.def_ 18 (d := d__law_right) rfl
  obtain ⟨fd_law, F_law⟩ := c.def_ 19 (d := d_law) rfl
  have e := hfa.symm.trans (He.glo_ok X G (c.fact 19 (f := .glo "law") rfl))
  cases e
  have b := FunD.bindsA (ps := ["_law_script"]) F_law fun _ _ _ _ _ _ us hl => match us, hl with | [_], _ => rfl
  have B : Bz K w mg := ⟨He.free_ok X G (c.fact 20 (f := .free "range") rfl), He.free_ok X G (c.fact 21 (f := .free "int") rfl), He.free_ok X G (c.fact 22 (f := .free "tuple") rfl), He.free_ok X G (c.fact 23 (f := .free "enumerate") rfl), He.free_ok X G (c.fact 24 (f := .free "zip") rfl), He.free_ok X G (c.fact 25 (f := .free "abs") rfl), He.free_ok X G (c.fact 26 (f := .free "len") rfl), He.free_ok X G (c.fact 27 (f := .free "isinstance") rfl), He.free_ok X G (c.fact 28 (f := .free "bool") rfl), He.free_ok X G (c.fact 29 (f := .free "min") rfl), He.free_ok X G (c.fact 30 (f := .free "max") rfl), He.free_ok X G (c.fact 31 (f := .free "repr") rfl)⟩
  refine ⟨fd_law, fun s v => b s [v] rfl, fun base _ _ sr TB => ?_⟩
  have NS : SeerK P base := ⟨hP, sr⟩
  have G_unit_row : Fn P w K mg base 1 "unit_row" 2 m_unit_row := ⟨⟨_, fd_unit_row, ["n", "at"], He.glo_ok X G (c.fact 0 (f := .glo "unit_row") rfl), F_unit_row.kp, F_unit_row.bindsN (fun _ _ _ _ _ _ us hl => match us, hl with | [_, _], _ => rfl), ok_unit_row F_unit_row B NS⟩⟩
  have G_foot_of : Fn P w K mg base 1 "foot_of" 1 m_foot_of := ⟨⟨_, fd_foot_of, ["row"], He.glo_ok X G (c.fact 1 (f := .glo "foot_of") rfl), F_foot_of.kp, F_foot_of.bindsN (fun _ _ _ _ _ _ us hl => match us, hl with | [_], _ => rfl), ok_foot_of F_foot_of B NS⟩⟩
  have G_pair_less : Fn P w K mg base 1 "pair_less" 3 m_pair_less := ⟨⟨_, fd_pair_less, ["pair", "other", "many"], He.glo_ok X G (c.fact 2 (f := .glo "pair_less") rfl), F_pair_less.kp, F_pair_less.bindsN (fun _ _ _ _ _ _ us hl => match us, hl with | [_, _, _], _ => rfl), ok_pair_less F_pair_less B NS⟩⟩
  have G_nearest_pair : Fn P w K mg base 1 "nearest_pair" 2 m_nearest_pair := ⟨⟨_, fd_nearest_pair, ["pairs", "at"], He.glo_ok X G (c.fact 3 (f := .glo "nearest_pair") rfl), F_nearest_pair.kp, F_nearest_pair.bindsN (fun _ _ _ _ _ _ us hl => match us, hl with | [_, _], _ => rfl), ok_nearest_pair F_nearest_pair B NS⟩⟩
  have G__law_pen : Fn P w K mg base 1 "_law_pen" 2 m__law_pen := ⟨⟨_, fd__law_pen, ["_law_script", "_law_k"], He.glo_ok X G (c.fact 4 (f := .glo "_law_pen") rfl), F__law_pen.kp, F__law_pen.bindsN (fun _ _ _ _ _ _ us hl => match us, hl with | [_, _], _ => rfl), ok__law_pen F__law_pen B NS⟩⟩
  have G__law_draw : Fn P w K mg base 1 "_law_draw" 2 m__law_draw := ⟨⟨_, fd__law_draw, ["_law_pen_here", "_law_many"], He.glo_ok X G (c.fact 5 (f := .glo "_law_draw") rfl), F__law_draw.kp, F__law_draw.bindsN (fun _ _ _ _ _ _ us hl => match us, hl with | [_, _], _ => rfl), ok__law_draw F__law_draw B NS⟩⟩
  have G__law_mixed : Fn P w K mg base 1 "_law_mixed" 3 m__law_mixed := ⟨⟨_, fd__law_mixed, ["_law_wide", "_law_numbers", "_law_rows_here"], He.glo_ok X G (c.fact 6 (f := .glo "_law_mixed") rfl), F__law_mixed.kp, F__law_mixed.bindsN (fun _ _ _ _ _ _ us hl => match us, hl with | [_, _, _], _ => rfl), ok__law_mixed F__law_mixed B NS⟩⟩
  have G__law_foot : Fn P w K mg base 1 "_law_foot" 1 m__law_foot := ⟨⟨_, fd__law_foot, ["_law_row"], He.glo_ok X G (c.fact 7 (f := .glo "_law_foot") rfl), F__law_foot.kp, F__law_foot.bindsN (fun _ _ _ _ _ _ us hl => match us, hl with | [_], _ => rfl), ok__law_foot F__law_foot B NS⟩⟩
  have G__law_is_reached : Fn P w K mg base 1 "_law_is_reached" 2 m__law_is_reached := ⟨⟨_, fd__law_is_reached, ["_law_basis_here", "_law_word_here"], He.glo_ok X G (c.fact 8 (f := .glo "_law_is_reached") rfl), F__law_is_reached.kp, F__law_is_reached.bindsN (fun _ _ _ _ _ _ us hl => match us, hl with | [_, _], _ => rfl), ok__law_is_reached F__law_is_reached B NS⟩⟩
  have G_one_gathered : Fn P w K mg base 2 "one_gathered" 2 m_one_gathered := ⟨⟨_, fd_one_gathered, ["pairs", "at"], He.glo_ok X G (c.fact 9 (f := .glo "one_gathered") rfl), F_one_gathered.kp, F_one_gathered.bindsN (fun _ _ _ _ _ _ us hl => match us, hl with | [_, _], _ => rfl), ok_one_gathered F_one_gathered B NS G_nearest_pair G_pair_less⟩⟩
  have G__law_number : Fn P w K mg base 2 "_law_number" 2 m__law_number := ⟨⟨_, fd__law_number, ["_law_pen_here", "_law_way"], He.glo_ok X G (c.fact 10 (f := .glo "_law_number") rfl), F__law_number.kp, F__law_number.bindsN (fun _ _ _ _ _ _ us hl => match us, hl with | [_, _], _ => rfl), ok__law_number F__law_number B NS G__law_draw⟩⟩
  have G__law_slanted : Fn P w K mg base 2 "_law_slanted" 3 m__law_slanted := ⟨⟨_, fd__law_slanted, ["_law_pen_here", "_law_wide", "_law_k"], He.glo_ok X G (c.fact 11 (f := .glo "_law_slanted") rfl), F__law_slanted.kp, F__law_slanted.bindsN (fun _ _ _ _ _ _ us hl => match us, hl with | [_, _, _], _ => rfl), ok__law_slanted F__law_slanted B NS G__law_draw⟩⟩
  have G__law_put_in : Fn P w K mg base 2 "_law_put_in" 2 m__law_put_in := ⟨⟨_, fd__law_put_in, ["_law_basis_here", "_law_row"], He.glo_ok X G (c.fact 12 (f := .glo "_law_put_in") rfl), F__law_put_in.kp, F__law_put_in.bindsN (fun _ _ _ _ _ _ us hl => match us, hl with | [_, _], _ => rfl), ok__law_put_in F__law_put_in B NS G__law_foot⟩⟩
  have G__law_word : Fn P w K mg base 2 "_law_word" 4 m__law_word := ⟨⟨_, fd__law_word, ["_law_pen_here", "_law_wide", "_law_rows_here", "_law_way"], He.glo_ok X G (c.fact 13 (f := .glo "_law_word") rfl), F__law_word.kp, F__law_word.bindsN (fun _ _ _ _ _ _ us hl => match us, hl with | [_, _, _, _], _ => rfl), ok__law_word F__law_word B NS G__law_draw G__law_mixed⟩⟩
  have G_stair_pairs : Fn P w K mg base 3 "stair_pairs" 2 m_stair_pairs := ⟨⟨_, fd_stair_pairs, ["wide", "rows"], He.glo_ok X G (c.fact 14 (f := .glo "stair_pairs") rfl), F_stair_pairs.kp, F_stair_pairs.bindsN (fun _ _ _ _ _ _ us hl => match us, hl with | [_, _], _ => rfl), ok_stair_pairs F_stair_pairs B NS G_unit_row G_one_gathered G_pair_less⟩⟩
  have G__law_rows : Fn P w K mg base 3 "_law_rows" 2 m__law_rows := ⟨⟨_, fd__law_rows, ["_law_pen_here", "_law_most"], He.glo_ok X G (c.fact 15 (f := .glo "_law_rows") rfl), F__law_rows.kp, F__law_rows.bindsN (fun _ _ _ _ _ _ us hl => match us, hl with | [_, _], _ => rfl), ok__law_rows F__law_rows B NS G__law_draw G__law_slanted G__law_number⟩⟩
  have G__law_basis : Fn P w K mg base 3 "_law_basis" 1 m__law_basis := ⟨⟨_, fd__law_basis, ["_law_rows_here"], He.glo_ok X G (c.fact 16 (f := .glo "_law_basis") rfl), F__law_basis.kp, F__law_basis.bindsN (fun _ _ _ _ _ _ us hl => match us, hl with | [_], _ => rfl), ok__law_basis F__law_basis B NS G__law_put_in⟩⟩
  have G_mixing : Fn P w K mg base 4 "mixing" 3 m_mixing := ⟨⟨_, fd_mixing, ["wide", "rows", "word"], He.glo_ok X G (c.fact 17 (f := .glo "mixing") rfl), F_mixing.kp, F_mixing.bindsN (fun _ _ _ _ _ _ us hl => match us, hl with | [_, _, _], _ => rfl), ok_mixing F_mixing B NS G_stair_pairs G_foot_of G_pair_less⟩⟩
  have G__law_right : Fn P w K mg base 5 "_law_right" 4 m__law_right := ⟨⟨_, fd__law_right, ["_law_wide", "_law_rows_here", "_law_basis_here", "_law_word_here"], He.glo_ok X G (c.fact 18 (f := .glo "_law_right") rfl), F__law_right.kp, F__law_right.bindsN (fun _ _ _ _ _ _ us hl => match us, hl with | [_, _, _, _], _ => rfl), ok__law_right F__law_right B NS G_mixing G__law_is_reached G__law_mixed⟩⟩
  exact ok_law F_law B NS G__law_pen G__law_rows G__law_basis G__law_draw G__law_word G__law_right G_mixing
theorem sp_law {K : PySem.W.Frag} {mg : Str → Option Value} {ns : List Int} (hl : ∃ r, m_law [.v (.list (ns.map .int))] = .ok (.v (.bool true)) r) (H : Hp) (a : Addr) (hS : SqL K H a (ns.map V.int)) (tb : LamX.Tabs (TabT.T K) H) : spG K mg 1 m_law [.ref a] H (fun v _ => v = .bl true) fun _ _ _ => False :=
  sp_start hl hS tb
end K14
namespace K14.M
open PySem Pu L2
theorem pD_eq (p : St.P2) : pD p = .tuple [.tuple (p.1.map .int), .tuple (p.2.map .int)] := rfl
theorem mulOk_b {i j : Int} {b c : Nat} (h1 : i.natAbs < 2 ^ b) (h2 : j.natAbs < 2 ^ c) (h : b + c < 100000000) : mulOk i j := by
  refine .inr (.inr ?_)
  have key : ∀ (z : Nat) (d : Nat), z < 2 ^ d → z.log2 ≤ d := fun z d hz => by
    by_cases h0 : z = 0
    · rw [h0]
      simp [-po_comp]
    · exact Nat.le_of_lt ((Nat.log2_lt h0).mpr hz)
  have := key _ _ h1
  have := key _ _ h2
  omega
theorem less_ok {X : Exn → En → Prop} {p q : St.P2} {m : Int} (hl : p.1.length = q.1.length ∧ p.2.length = q.2.length) (hs : p.1.length ≤ 1000 ∧ p.2.length ≤ 1000) (hm : ∀ y, St.Ent q y → mulOk m y) :
    Wp X (m_pair_less [.v (pD p), .v (pD q), .v (.int m)]) fun rv _ => rv = .v (pD (St.less p q m)) := by
  refine po_fnK fun Y K hY hK _ => ?_
  unfold b_pair_less
  rw [pD_eq, pD_eq]
  refine po_step fun K1 h1 _ _ _ => ?_
  simp [-po_comp]
  refine po_LC2 (f1 := fun z : Int × Int => .int z.1) (f2 := fun z => .int z.2) (g := fun z => .int (z.1 - m * z.2)) (List.zip p.1 q.1) ?_ rfl (by decide) (by simp [-po_comp]; omega) ?_ ?_
  · simp [-po_comp, zipD_map]
  · rintro ⟨a, b⟩ hz
    simp [-po_comp]
    exact hm b (.inl (List.of_mem_zip hz).2)
  simp [-po_comp]
  refine h1 _ ?_
  simp [-po_comp]
  refine po_LC2 (f1 := fun z : Int × Int => .int z.1) (f2 := fun z => .int z.2) (g := fun z => .int (z.1 - m * z.2)) (List.zip p.2 q.2) ?_ rfl (by decide) (by simp [-po_comp]; omega) ?_ ?_
  · simp [-po_comp, zipD_map]
  · rintro ⟨a, b⟩ hz
    simp [-po_comp]
    exact hm b (.inr (List.of_mem_zip hz).2)
  simp [-po_comp]
  refine hK _ _ _ rfl ?_
  have e : ∀ a b : List Int, List.map (fun z => PyData.int (z.1 - m * z.2)) (List.zip a b) = (St.lsl a b m).map .int := fun a b => by
    unfold St.lsl
    rw [List.map_zipWith]
    rw [List.zip, List.map_zipWith]
  rw [e, e]
  rfl
theorem at_vt {p : St.P2} {k : Nat} (h : k < p.1.length) : atI (p.1.map PyData.int) (k : Int) = some (.int (St.vt p k)) := by
  rw [Pu.atI_nat, List.getElem?_map, List.getElem?_eq_getElem h]
  show some (PyData.int p.1[k]) = _
  rw [← St.vec_get h]
theorem nearest_ok {X : Exn → En → Prop} {ps : List St.P2} {k : Nat} (hne : ps ≠ []) (hk : ∀ p ∈ ps, k < p.1.length) :
    Wp X (m_nearest_pair [.v (.list (ps.map pD)), .v (.int k)]) fun rv _ => ∃ f ∈ ps, rv = .v (pD f) ∧ ∀ p ∈ ps, (St.vt f k).natAbs ≤ (St.vt p k).natAbs := by
  refine po_fnK fun Y K hY hK _ => ?_
  unfold b_nearest_pair
  obtain ⟨f0, hf0, e0⟩ : ∃ f0 ∈ ps, atI (ps.map pD) 0 = some (pD f0) := by
    obtain ⟨f0, rest, rfl⟩ := List.exists_cons_of_ne_nil hne
    exact ⟨f0, List.mem_cons_self .., (Pu.atI_nat _ 0).trans rfl⟩
  refine po_step fun K1 h1 _ _ _ => ?_
  simp [-po_comp, e0]
  refine h1 _ ?_
  refine po_step fun K2 h2 _ _ _ => ?_
  simp [-po_comp]
  refine po_forK (fun done r => ∃ f s, r = [.v (.list (ps.map pD)), .v (.int k), .v (pD f), s] ∧ s.isIo = false ∧ f ∈ ps ∧ ∀ p ∈ done, (St.vt f k).natAbs ≤ (St.vt p k).natAbs) ps _ ⟨f0, .unk, rfl, rfl, hf0, fun p hp => by cases hp⟩ ?_ ?_
  · rintro done x rst r hsplit ⟨f, s, rfl, hs, hf, hm⟩
    have hx : x ∈ ps := by rw [hsplit]; simp [-po_comp]
    refine ⟨[.v (.list (ps.map pD)), .v (.int k), .v (pD f), .v (pD x)], by simp [-po_comp, hs], fun K3 h3 _ _ _ => ?_⟩
    have ex := at_vt (hk x hx)
    have ef := at_vt (hk f hf)
    simp [-po_comp, pD_eq, ex, ef]
    have ab : ∀ z : Int, (if z < 0 then -z else z) = (z.natAbs : Int) := fun z => by split <;> omega
    rw [ab, ab]
    simp only [Int.ofNat_lt]
    split
    · rename_i c
      refine h3 _ ⟨x, _, rfl, rfl, hx, fun p hp => ?_⟩
      rcases List.mem_append.mp hp with hp | hp
      · have := hm p hp
        omega
      · rw [List.mem_singleton.mp hp]
        exact Nat.le_refl _
    · rename_i c
      refine h3 _ ⟨f, _, rfl, rfl, hf, fun p hp => ?_⟩
      rcases List.mem_append.mp hp with hp | hp
      · exact hm p hp
      · rw [List.mem_singleton.mp hp]
        omega
  · rintro r ⟨f, s, rfl, hs, hf, hm⟩
    refine h2 _ ?_
    simp [-po_comp]
    exact hK _ _ _ rfl ⟨f, hf, rfl, hm⟩
/-- what gathering tells -/
def GR (rs : List (List Int)) (w n k b : Nat) (T : St.Ve → Prop) (N : Nat) (d : D) : Prop := ∃ rest : List St.P2, rest.length ≤ N ∧
  ((d = .tuple [.none, .list (rest.map pD)] ∧ St.GI rs w n k b T [] rest) ∨
   ∃ f0 f : St.P2, d = .tuple [pD f, .list (rest.map pD)] ∧ St.GI rs w n k b T [f0] rest ∧ (f = f0 ∧ 0 < St.vt f0 k ∨ f = St.less f0 f0 2 ∧ St.vt f0 k < 0))
theorem er_map {α β : Type} (f : α → β) : ∀ (l : List α) (j : Nat), (l.map f).eraseIdx j = (l.eraseIdx j).map f
  | [], _ => rfl
  | _ :: _, 0 => rfl
  | a :: l, j + 1 => by
    show f a :: (l.map f).eraseIdx j = f a :: (l.eraseIdx j).map f
    rw [er_map f l j]
theorem len_split {α : Type} (P : α → Bool) : ∀ l : List α, (l.filter fun a => !P a).length + (l.filter P).length = l.length
  | [] => rfl
  | a :: l => by
    have := len_split P l
    cases h : P a <;> simp [-po_comp, h] <;> omega
theorem gathered_ok {X : Exn → En → Prop} {rs : List (List Int)} {w n k b : Nat} {T : St.Ve → Prop} {l : List St.P2} (hg : St.GS rs w n k T l) (hb : St.Bd b l) (hk : k < w) (hw : w ≤ 1000) (hn : n ≤ 1000) (hl : l.length ≤ 1000) (hlim : 2 * St.up b + 10 < 100000000) :
    Wp X (m_one_gathered [.v (.list (l.map pD)), .v (.int k)]) fun rv _ => ∃ d, rv = .v d ∧ GR rs w n k b T l.length d := by
  refine po_fnK fun Y K hY hK _ => ?_
  unfold b_one_gathered
  have hkl : ∀ p ∈ l, k < p.1.length := fun p hp => by rw [(hg.len p hp).1]; exact hk
  refine po_step fun K1 h1 _ _ _ => ?_
  simp [-po_comp]
  refine po_LF1 (f := pD) (g := pD) (p := fun p => decide (St.vt p k ≠ 0)) l (by simp [-po_comp]) rfl (by omega) ?_ ?_
  · intro p hp
    simp [-po_comp, pD_eq, at_vt (hkl p hp)]
  simp [-po_comp]
  refine h1 _ ?_
  refine po_step fun K2 h2 _ _ _ => ?_
  simp [-po_comp]
  refine po_LF1 (f := pD) (g := pD) (p := fun p => decide (St.vt p k = 0)) l (by simp [-po_comp]) rfl (by omega) ?_ ?_
  · intro p hp
    simp [-po_comp, pD_eq, at_vt (hkl p hp)]
  simp [-po_comp]
  refine h2 _ ?_
  refine po_step fun K3 h3 _ _ _ => ?_
  have hG0 := St.GI.start hg hb
  have hlen0 := len_split (fun p : St.P2 => decide (St.vt p k = 0)) l
  simp only [ne_eq, decide_not] at hG0
  generalize (l.filter fun p => !decide (St.vt p k = 0)) = some0 at hG0 hlen0 ⊢
  generalize (l.filter fun p => decide (St.vt p k = 0)) = rest0 at hG0 hlen0 ⊢
  refine po_while (fun t r => ∃ (some rest : List St.P2) (s4 s5 : Sl), r = [.v (.list (l.map pD)), .v (.int k), .o (.l (some.map pD)), .v (.list (rest.map pD)), s4, s5, .unk] ∧ s4.isIo = false ∧ s5.isIo = false ∧ St.GI rs w n k b T some rest ∧ some.length + rest.length = l.length ∧ t = St.msr k some) ?_ _ _ ⟨some0, rest0, .unk, .unk, rfl, rfl, rfl, hG0, hlen0, rfl⟩
  rintro t r ⟨some, rest, s4, s5, rfl, q4, q5, hG, hlen, rfl⟩
  simp [-po_comp]
  by_cases c : (1 : Int) < some.length
  · rw [if_pos c]
    refine po_step fun K4 h4 _ _ _ => ?_
    simp [-po_comp]
    have hne : some ≠ [] := by rintro rfl; simp [-po_comp] at c
    have hks : ∀ p ∈ some, k < p.1.length := fun p hp => by rw [(hG.gs.len p (List.mem_append_left _ hp)).1]; exact hk
    refine po_mono (nearest_ok hne hks) ?_
    rintro _ _ ⟨f, hf, rfl, hmin⟩
    simp [-po_comp, q4]
    refine ⟨noL_pD f, ?_⟩
    refine h4 _ ?_
    refine po_step fun K5 h5 _ _ _ => ?_
    obtain ⟨j, pj, hj, ho, hjf⟩ := place_pD hf
    simp [-po_comp, pj, shaped_pD, shaped_pDs, er_map]
    refine h5 _ ?_
    generalize hoth : some.eraseIdx j = oth at *
    have hlo : oth.length + 1 = some.length := by
      rw [← hoth, List.length_eraseIdx]
      simp [-po_comp, hj]
      omega
    refine po_step fun K6 h6 _ _ _ => ?_
    simp [-po_comp]
    have hof : ∀ p ∈ oth, p ∈ some := fun p hp => (ho p).mpr (.inr hp)
    have hkf := hks f hf
    have lenf := hG.gs.len f (List.mem_append_left _ hf)
    have bdf : ∀ e, St.Ent f e → e.natAbs < 2 ^ St.up b := hG.bd f (List.mem_append_left _ hf)
    have f0 : St.vt f k ≠ 0 := hG.nz f hf
    refine po_LC1 (f := pD) (g := fun p => pD (St.lss k f p)) oth (by simp [-po_comp]) (by simp [-po_comp, noOwn_cons]) (by omega) ?_ ?_
    · intro p hp
      have hps := hof p hp
      have lenp := hG.gs.len p (List.mem_append_left _ hps)
      have bdp : ∀ e, St.Ent p e → e.natAbs < 2 ^ St.up b := hG.bd p (List.mem_append_left _ hps)
      have ep := at_vt (hks p hps)
      have ef := at_vt hkf
      simp [-po_comp]
      simp [-po_comp, pD_eq, ep, ef, f0]
      rw [← pD_eq, ← pD_eq]
      refine po_mono (less_ok (by omega) (by omega) fun y hy => ?_) ?_
      · refine mulOk_b (b := St.up b + 1) (c := St.up b) ?_ (bdf y hy) (by omega)
        have h1 := St.fdiv_abs1 (v := St.vt p k) f0
        have h2 := bdp _ (St.vt_ent (hG.nz p hps))
        rw [Nat.pow_succ]
        omega
      · rintro _ _ rfl
        simp [-po_comp]
        rfl
    simp [-po_comp, q5]
    refine h6 _ ?_
    have hG2 := hG.step hf hmin ho
    have hms : oth ≠ [] → St.msr k (oth.map (St.lss k f)) < St.msr k oth := fun hne2 => St.msr_less f0 hne2 fun q hq => by
      have := hG.gs.len q (List.mem_append_left _ (hof q hq))
      exact ⟨by omega, hmin q (hof q hq)⟩
    have hk2 : ∀ p ∈ oth.map (St.lss k f), k < p.1.length := fun p hp => by
      obtain ⟨q, hq, rfl⟩ := List.mem_map.mp hp
      have := hG.gs.len q (List.mem_append_left _ (hof q hq))
      show k < (St.lsl q.1 f.1 _).length
      rw [St.len_lsl (by omega)]
      omega
    have hmo : St.msr k some = (St.vt f k).natAbs + St.msr k oth := by
      have e2 : some = some.take j ++ f :: some.drop (j + 1) := by
        have : some[j] = f := hjf hj
        rw [← this, List.getElem_cons_drop, List.take_append_drop]
      have e3 : oth = some.take j ++ some.drop (j + 1) := by rw [← hoth, List.eraseIdx_eq_take_drop_succ]
      unfold St.msr
      rw [e3]
      conv => lhs; rw [e2]
      simp [-po_comp]
      omega
    have e : List.map (fun p => pD (St.lss k f p)) oth = (oth.map (St.lss k f)).map pD := by simp [-po_comp]
    rw [e]
    have hlo2 : (oth.map (St.lss k f)).length = oth.length := List.length_map _
    simp only [ne_eq, decide_not] at hG2
    generalize oth.map (St.lss k f) = ot2 at *
    have hsp := len_split (fun p : St.P2 => decide (St.vt p k = 0)) ot2
    refine po_step fun K7 h7 _ _ _ => ?_
    simp [-po_comp]
    refine po_LF1 (f := pD) (g := pD) (p := fun p => decide (St.vt p k = 0)) ot2 (by simp [-po_comp]) (by simp [-po_comp, noOwn_cons]) (by omega) ?_ ?_
    · intro p hp
      simp [-po_comp, pD_eq, at_vt (hk2 p hp)]
    simp [-po_comp]
    refine ⟨by omega, ?_⟩
    refine h7 _ ?_
    simp [-po_comp]
    refine po_LF1 (f := pD) (g := pD) (p := fun p => !decide (St.vt p k = 0)) ot2 (by simp [-po_comp]) (by simp [-po_comp, noOwn_cons]) (by omega) ?_ ?_
    · intro p hp
      simp [-po_comp, pD_eq, at_vt (hk2 p hp)]
    simp [-po_comp]
    refine ⟨by omega, ?_⟩
    have hfl := St.msr_filter k (fun p => !decide (St.vt p k = 0)) ot2
    refine ⟨St.msr k (f :: ot2.filter fun p => !decide (St.vt p k = 0)), ?_, f :: ot2.filter fun p => !decide (St.vt p k = 0), rest ++ ot2.filter fun p => decide (St.vt p k = 0), .v (pD f), .v (.list (ot2.map pD)), by simp, rfl, rfl, hG2, ?_, rfl⟩
    · have hne2 : oth ≠ [] := by
        rintro rfl
        simp [-po_comp] at hlo
        omega
      have := hms hne2
      show (St.vt f k).natAbs + St.msr k (ot2.filter fun p => !decide (St.vt p k = 0)) < _
      omega
    · simp [-po_comp]
      omega
  · rw [if_neg c]
    refine h3 _ ?_
    have hrl : rest.length ≤ l.length := by omega
    match some, hG, hlen, c with
    | [], hG, hlen, c =>
      have e0 : eqD0 (.list []) (.list []) = Option.some (.bool true) := eqD0_l [] (.list []) ⟨shaped_l [], shaped_l []⟩
      refine po_step fun K4 h4 r4 _ _ => ?_
      simp [-po_comp, e0]
      refine r4 _ _ ?_
      exact hK _ _ _ rfl ⟨_, rfl, rest, hrl, .inl ⟨rfl, hG⟩⟩
    | [f0], hG, hlen, c =>
      have hkf : k < f0.1.length := by rw [(hG.gs.len f0 (List.mem_append_left _ (List.mem_singleton_self _))).1]; exact hk
      have lf := hG.gs.len f0 (List.mem_append_left _ (List.mem_singleton_self _))
      have ef := at_vt hkf
      have nz := hG.nz f0 (List.mem_singleton_self _)
      have e0 : eqD0 (.list [pD f0]) (.list []) = Option.some (.bool false) := eqD0_l [pD f0] (.list []) ⟨shaped_pDs [f0], shaped_l []⟩
      refine po_step fun K4 h4 r4 _ _ => ?_
      simp [-po_comp, e0]
      refine h4 _ ?_
      refine po_step fun K5 h5 r5 _ _ => ?_
      simp [-po_comp, q4]
      refine h5 _ ?_
      refine po_step fun K6 h6 r6 _ _ => ?_
      simp [-po_comp, pD_eq, ef]
      by_cases neg : St.vt f0 k < 0
      · rw [if_pos neg, ← pD_eq]
        refine po_mono (less_ok ⟨rfl, rfl⟩ (by omega) fun y hy => mulOk_l ⟨by omega, by omega⟩) ?_
        rintro _ _ rfl
        simp [-po_comp]
        refine h6 _ ?_
        simp [-po_comp]
        exact hK _ _ _ rfl ⟨_, rfl, rest, hrl, .inr ⟨f0, _, rfl, hG, .inr ⟨rfl, neg⟩⟩⟩
      · rw [if_neg neg]
        refine h6 _ ?_
        simp [-po_comp]
        exact hK _ _ _ rfl ⟨_, rfl, rest, hrl, .inr ⟨f0, _, rfl, hG, .inl ⟨rfl, by omega⟩⟩⟩
    | a :: b :: t, hG, hlen, c =>
      exfalso
      apply c
      simp [-po_comp]
      omega
theorem unit_row_ok {X : Exn → En → Prop} {n a : Nat} (hn : n ≤ 1000) : Wp X (m_unit_row [.v (.int n), .v (.int a)]) fun rv _ => rv = .v (rD (St.unit n a)) := by
  refine po_fnK fun Y K hY hK _ => ?_
  unfold b_unit_row
  simp [-po_comp]
  refine po_LC1 (f := fun i : Nat => .int i) (g := fun i : Nat => .int (if i = a then 1 else 0)) (List.range n) (by simp [-po_comp, rng_map]; omega) rfl (by simp [-po_comp]; omega) ?_ ?_
  · intro i hi
    simp [-po_comp]
    by_cases h : i = a
    · simp [-po_comp, h]
    · have : ¬ (i : Int) = (a : Int) := by omega
      simp [-po_comp, h, this]
  simp [-po_comp]
  refine hK _ _ _ rfl ?_
  unfold rD St.unit
  rw [List.map_map]
  rfl
/-- what stair_pairs tells -/
structure StOk (rs : List (List Int)) (w b : Nat) (done : List St.P2) : Prop where
  len : ∀ p ∈ done, p.1.length = w ∧ p.2.length = rs.length
  mx : ∀ p ∈ done, ∀ i, St.vec p.1 i = St.dot p.2 rs i
  sp : ∀ x, St.Sl (done.map fun p => St.vec p.1) x ↔ St.Sl (rs.map St.vec) x
  st : St.Stair (done.map fun p => St.vec p.1)
  bd : St.Bd (St.cc b w) done
  le : done.length ≤ w
theorem left_eq (rs : List (List Int)) (n : Nat) : (rs.zipIdx 0).map (fun p => ((p.1, St.unit n p.2) : St.P2)) = (List.range rs.length).map fun i => (rs.getD i [], St.unit n i) := by
  apply List.ext_getElem
  · simp [-po_comp]
  · intro i h1 h2
    simp [-po_comp] at h1
    simp [-po_comp, h1]
theorem pairs_ok {X : Exn → En → Prop} {rs : List (List Int)} {w b : Nat} (hw : ∀ r ∈ rs, r.length = w) (hb : ∀ r ∈ rs, ∀ e ∈ r, e.natAbs < 2 ^ b) (b1 : 1 ≤ b) (w1 : w ≤ 1000) (n1 : rs.length ≤ 1000) (hlim : ∀ i, i < w → 2 * St.bb b (i + 1) + 2 * St.cc b i + 100 < 100000000) :
    Wp X (m_stair_pairs [.v (.int w), .v (.tuple (rs.map rD))]) fun rv _ => ∃ done, rv = .v (.list (done.map pD)) ∧ StOk rs w b done := by
  refine po_fnK fun Y K hY hK _ => ?_
  unfold b_stair_pairs
  refine po_step fun K1 h1 _ _ _ => ?_
  simp [-po_comp]
  have ez : (rs.zipIdx 0).map (fun p => pD (p.1, St.unit rs.length p.2)) = ((List.range rs.length).map fun i => ((rs.getD i [], St.unit rs.length i) : St.P2)).map pD := by
    rw [← left_eq, List.map_map]
    rfl
  refine po_LC2 (f1 := fun p : List Int × Nat => .int (p.2 : Nat)) (f2 := fun p => rD p.1) (g := fun p => pD (p.1, St.unit rs.length p.2)) (rs.zipIdx 0) (by simp [-po_comp]) rfl (by decide) (by simp [-po_comp]; omega) ?_ ?_
  · rintro ⟨r, i⟩ hp
    simp [-po_comp]
    refine po_mono (unit_row_ok n1) ?_
    rintro _ _ rfl
    simp [-po_comp]
    rfl
  simp [-po_comp]
  rw [ez]
  have hD0 := St.DI.start hw hb b1
  have hl0 : ((List.range rs.length).map fun i => ((rs.getD i [], St.unit rs.length i) : St.P2)).length = rs.length := by simp [-po_comp]
  generalize ((List.range rs.length).map fun i => ((rs.getD i [], St.unit rs.length i) : St.P2)) = left0 at hD0 hl0 ⊢
  refine h1 _ ?_
  refine po_step fun K2 h2 _ _ _ => ?_
  simp [-po_comp]
  refine h2 _ ?_
  refine po_step fun K3 h3 _ _ _ => ?_
  simp [-po_comp]
  refine ⟨by omega, ?_⟩
  refine po_rngK (fun i r => ∃ (done left : List St.P2) (s4 s5 : Sl), r = [.v (.int w), .v (.tuple (rs.map rD)), .v (.list (left.map pD)), .v (.list (done.map pD)), s4, s5, .unk, .unk] ∧ s4.isIo = false ∧ s5.isIo = false ∧ left.length ≤ rs.length ∧ done.length ≤ i ∧ St.DI rs w rs.length i (St.bb b i) (St.cc b i) (St.Sl (rs.map St.vec)) done left) _ _ ⟨[], left0, .unk, .unk, rfl, rfl, rfl, by omega, Nat.le_refl _, hD0⟩ ?_ ?_
  · rintro i r hi ⟨done, left, s4, s5, rfl, q4, q5, hll, hdl, hD⟩
    have lim1 := hlim i hi
    have up1 : St.bb b (i + 1) = St.up (St.bb b i) := rfl
    have cc1 : St.cc b (i + 1) = St.cc b i + St.up (St.bb b i) + 1 := rfl
    refine ⟨[.v (.int w), .v (.tuple (rs.map rD)), .v (.list (left.map pD)), .v (.list (done.map pD)), .v (.int i), s5, .unk, .unk], by simp [-po_comp, q4], fun K4 h4 _ _ _ => ?_⟩
    refine po_step fun K5 h5 _ _ _ => ?_
    simp [-po_comp]
    refine po_mono (gathered_ok hD.gs hD.bl hi w1 n1 (by omega) (by omega)) ?_
    rintro _ _ ⟨d, rfl, rest, hrl, hR | ⟨f0, f, rfl, hG, hf⟩⟩
    · obtain ⟨rfl, hG⟩ := hR
      simp [-po_comp, q5]
      refine h5 _ ?_
      simp [-po_comp]
      have hN := hD.none hG
      exact h4 _ ⟨done, rest, .v (.int i), .v .none, rfl, rfl, rfl, by omega, by omega, hN.len, hN.mx, hN.sp, hN.zl, hN.bl, hN.bd.mono (by omega), hN.st, hN.ft⟩
    · simp [-po_comp, q5]
      refine h5 _ ?_
      simp [-po_comp]
      have hfl : f.1.length = w ∧ f.2.length = rs.length := by
        have := hG.gs.len f0 (List.mem_append_left _ (List.mem_singleton_self _))
        rcases hf with ⟨rfl, _⟩ | ⟨rfl, _⟩
        · exact this
        · exact ⟨(St.len_lsl rfl).trans this.1, (St.len_lsl rfl).trans this.2⟩
      have hD2 := hD.some hG hf
      have f0k : 0 < St.vt f i := by
        rcases hf with ⟨rfl, h⟩ | ⟨rfl, h⟩
        · exact h
        · rw [St.vt_less rfl]
          omega
      have bdf : ∀ e, St.Ent f e → e.natAbs < 2 ^ (St.cc b i + St.up (St.bb b i) + 1) := hD2.bd f (List.mem_append_right _ (List.mem_singleton_self _))
      refine po_LC1 (f := pD) (g := fun p => pD (St.lss i f p)) done (by simp [-po_comp]) (by simp [-po_comp, noOwn_cons]) (by omega) ?_ ?_
      · intro p hp
        have lenp := hD.len p (List.mem_append_left _ hp)
        have bdp : ∀ e, St.Ent p e → e.natAbs < 2 ^ St.cc b i := hD.bd p hp
        have ep := at_vt (p := p) (k := i) (by omega)
        have ef := at_vt (p := f) (k := i) (by omega)
        have ne : ¬ St.vt f i = 0 := by omega
        simp [-po_comp]
        simp [-po_comp, pD_eq, ep, ef, ne]
        rw [← pD_eq, ← pD_eq]
        refine po_mono (less_ok (by omega) (by omega) fun y hy => ?_) ?_
        · refine mulOk_b (b := St.cc b i + 1) (c := St.cc b i + St.up (St.bb b i) + 1) ?_ (bdf y hy) (by omega)
          have h1 := St.fdiv_abs1 (v := St.vt p i) ne
          have h2 : (St.vt p i).natAbs < 2 ^ St.cc b i := by
            by_cases z : St.vt p i = 0
            · rw [z]
              exact Nat.pow_pos (by decide)
            · exact bdp _ (St.vt_ent z)
          rw [Nat.pow_succ]
          omega
        · rintro _ _ rfl
          simp [-po_comp]
          rfl
      simp [-po_comp]
      refine ⟨by omega, ?_⟩
      have e : List.map (fun p => pD (St.lss i f p)) done ++ [pD f] = (done.map (St.lss i f) ++ [f]).map pD := by simp [-po_comp]
      rw [e]
      refine h4 _ ⟨done.map (St.lss i f) ++ [f], rest, .v (.int i), .v (pD f), rfl, rfl, rfl, by omega, by simp [-po_comp]; omega, hD2⟩
  · rintro r ⟨done, left, s4, s5, rfl, q4, q5, hll, hdl, hD⟩
    refine h3 _ ?_
    simp [-po_comp]
    exact hK _ _ _ rfl ⟨done, rfl, fun p hp => hD.len p (List.mem_append_left _ hp), fun p hp => hD.mx p (List.mem_append_left _ hp), hD.fin, hD.st, hD.bd, hdl⟩
end K14.M
namespace K14.M
open PySem Pu L2
abbrev T (xs : List Int) : D := .tuple (xs.map .int)
abbrev TT (rs : List (List Int)) : D := .tuple (rs.map fun r => T r)
def fo : List Int → Nat
  | [] => 0
  | x :: xs => if x = 0 then fo xs + 1 else 0
theorem fo_z : ∀ (r : List Int) (i : Nat), i < fo r → St.vec r i = 0
  | [], i, h => by simp [-po_comp, fo] at h
  | x :: xs, i, h => by
    unfold fo at h
    split at h
    · rename_i z
      cases i with
      | zero => exact z
      | succ i => exact fo_z xs i (by omega)
    · omega
theorem fo_nz : ∀ r : List Int, fo r < r.length → St.vec r (fo r) ≠ 0
  | [], h => by simp [-po_comp, fo] at h
  | x :: xs, h => by
    unfold fo at h ⊢
    split
    · rename_i z
      rw [if_pos z] at h
      exact fo_nz xs (by simpa using h)
    · rename_i z
      exact z
theorem ft_fo {r : List Int} {k : Nat} (h : St.Ft (St.vec r) k) : k = fo r ∧ k < r.length := by
  have hk : k < r.length := by
    rcases Nat.lt_or_ge k r.length with q | q
    · exact q
    · have := h.2
      rw [St.vec_out q] at this
      omega
  refine ⟨?_, hk⟩
  rcases Nat.lt_trichotomy k (fo r) with q | q | q
  · have := fo_z r k q
    have := h.2
    omega
  · exact q
  · have := fo_nz r (by omega)
    exact absurd (h.1 _ q) this
def Lim (b w : Nat) : Prop := ∀ i, i < w → 2 * St.bb b (i + 1) + 2 * St.cc b i + 100 < 100000000
theorem fo_app (z : List Int) (x : Int) (r : List Int) (hz : ∀ y ∈ z, y = 0) (hx : x ≠ 0) : fo (z ++ x :: r) = z.length := by
  induction z with
  | nil => simp [-po_comp, fo, hx]
  | cons y z ih =>
    have h1 := hz y (List.mem_cons_self ..)
    subst h1
    simp [-po_comp, fo, ih fun y hy => hz y (List.mem_cons_of_mem _ hy)]
theorem fo_all : ∀ (r : List Int), (∀ y ∈ r, y = 0) → fo r = r.length
  | [], _ => rfl
  | x :: r, h => by
    simp [-po_comp, fo, h x (List.mem_cons_self ..), fo_all r fun y hy => h y (List.mem_cons_of_mem _ hy)]
def ftD (r : List Int) : D := if fo r < r.length then .int (fo r : Nat) else .none
theorem foot_ok {X : Exn → En → Prop} (r : List Int) (hr : r.length ≤ 1000) : Wp X (m_foot_of [.v (T r)]) fun rv _ => rv = .v (ftD r) := by
  refine po_fnK fun Y K hY hK _ => ?_
  unfold b_foot_of
  refine po_step fun K1 h1 r1 _ _ => ?_
  simp [-po_comp]
  refine po_forK (f := fun p : Int × Nat => .tuple [.int (p.2 : Nat), .int p.1]) (fun done q => ∃ s1 s2 : Sl, q = [.v (T r), s1, s2] ∧ s1.isIo = false ∧ s2.isIo = false ∧ ∀ p ∈ done, p.1 = 0) (r.zipIdx 0) _ ⟨.unk, .unk, rfl, rfl, rfl, by simp⟩ ?_ ?_
  · rintro done ⟨x, i⟩ rest q hs ⟨s1, s2, rfl, q1, q2, hz⟩
    refine ⟨[.v (T r), .v (.int (i : Nat)), .v (.int x)], by simp [-po_comp, q1, q2], fun K2 h2 r2 _ _ => ?_⟩
    simp [-po_comp]
    by_cases c : x = 0
    · subst c
      simp [-po_comp]
      refine h2 _ ⟨_, _, rfl, rfl, rfl, fun p hp => ?_⟩
      rcases List.mem_append.mp hp with hp | hp
      · exact hz p hp
      · rw [List.mem_singleton.mp hp]
    · simp [-po_comp, c]
      refine r2 _ _ (r1 _ _ (hK _ _ _ rfl ?_))
      have em : r = done.map (·.1) ++ x :: rest.map (·.1) := by
        have := congrArg (List.map (·.1)) hs
        simpa using this
      have ei : i = done.length := by
        have e : (r.zipIdx 0)[done.length]? = some (x, i) := by rw [hs]; simp [-po_comp]
        rw [List.getElem?_zipIdx] at e
        obtain ⟨y, _, e2⟩ := Option.map_eq_some_iff.mp e
        simp [-po_comp] at e2
        omega
      have hfo : fo r = done.length := by
        rw [em, fo_app _ _ _ (by
          intro y hy
          obtain ⟨p, hp, rfl⟩ := List.mem_map.mp hy
          exact hz p hp) c]
        simp [-po_comp]
      have hlt : fo r < r.length := by
        rw [hfo]
        have := congrArg List.length em
        simp [-po_comp] at this
        omega
      unfold ftD
      rw [if_pos hlt, hfo, ei]
  · rintro q ⟨s1, s2, rfl, q1, q2, hz⟩
    refine h1 _ ?_
    simp [-po_comp]
    refine hK _ _ _ rfl ?_
    have hfo := fo_all r fun y hy => by
      obtain ⟨i, hi, rfl⟩ := List.mem_iff_getElem.mp hy
      exact hz (r[i], i) (List.mem_iff_getElem?.mpr ⟨i, by simp [-po_comp, hi]⟩)
    unfold ftD
    rw [if_neg (by omega)]
theorem red_iff {a : St.Ve} {t : List St.Ve} {k : Nat} {x : St.Ve} (hk : St.Ft a k) (hz : ∀ r ∈ t, ∀ i, i ≤ k → r i = 0) : St.Sl (a :: t) x ↔ St.Sl t (fun i => x i - (x k).fdiv (a k) * a i) := by
  constructor
  · intro h
    exact ((St.Stair.red hk hz).mp h).2
  · intro h
    exact St.sl_cons.mpr ⟨_, h⟩
theorem fdiv_abs {x a : Int} {b : Nat} (ha : 0 < a) (h : x.natAbs < 2 ^ b) : (x.fdiv a).natAbs ≤ 2 ^ b := by
  have e := St.fdiv_fmod x a
  have s := (St.fmod_sgn (v := x) (f := a) (by omega)).1 ha
  rcases Nat.lt_or_ge (2 ^ b) (x.fdiv a).natAbs with q | q
  · exfalso
    have h2 : (((2 ^ b : Nat) : Int) + 1) * a ≤ ((x.fdiv a).natAbs : Int) * a := Int.mul_le_mul_of_nonneg_right (by omega) (by omega)
    rw [Int.add_mul, Int.one_mul] at h2
    have h3 : ((2 ^ b : Nat) : Int) * 1 ≤ ((2 ^ b : Nat) : Int) * a := Int.mul_le_mul_of_nonneg_left (by omega) (Int.natCast_nonneg _)
    rcases Int.le_total 0 (x.fdiv a) with c | c
    · rw [Int.natAbs_of_nonneg c] at h2
      omega
    · have : ((x.fdiv a).natAbs : Int) = -(x.fdiv a) := by omega
      rw [this, Int.neg_mul] at h2
      omega
  · exact q
theorem isnt_ftD (r : List Int) : isntD (ftD r) .none = some (.bool (decide (fo r < r.length))) := by
  unfold ftD
  by_cases h : fo r < r.length
  · rw [if_pos h, decide_eq_true h]
    rfl
  · rw [if_neg h, decide_eq_false h]
    rfl
theorem dot_neg : ∀ (m : List Int) (rs : List (List Int)) (i : Nat), St.dot (m.map fun x => -x) rs i = -St.dot m rs i
  | [], rs, i => by cases rs <;> simp [-po_comp, St.dot]
  | x :: m, [], i => by simp [-po_comp, St.dot]
  | x :: m, r :: rs, i => by
    show -x * St.vec r i + St.dot (m.map fun x => -x) rs i = -(x * St.vec r i + St.dot m rs i)
    rw [dot_neg m rs i, Int.neg_mul]
    omega
theorem mixing_ok {X : Exn → En → Prop} {rs : List (List Int)} {W : List Int} {w b e : Nat} (hw : ∀ r ∈ rs, r.length = w) (hb : ∀ r ∈ rs, ∀ e ∈ r, e.natAbs < 2 ^ b) (b1 : 1 ≤ b) (w1 : w ≤ 1000) (n1 : rs.length ≤ 1000) (hlim : Lim b w) (hW : W.length = w) (hWb : ∀ x ∈ W, x.natAbs < 2 ^ e) (hlim2 : e + w + St.cc b w + 10 < 100000000) :
    Wp X (m_mixing [.v (.int w), .v (TT rs), .v (T W)]) fun rv _ => (¬ St.Sl (rs.map St.vec) (St.vec W) ∧ rv = .v .none) ∨ ∃ cs : List Int, rv = .v (T cs) ∧ cs.length = rs.length ∧ (∀ x ∈ cs, x.natAbs < 2 ^ (e + w + St.cc b w)) ∧ ∀ i, St.vec W i = St.dot cs rs i := by
  refine po_fnK fun Y K hY hK _ => ?_
  unfold b_mixing
  refine po_step fun K1 h1 _ _ _ => ?_
  simp [-po_comp]
  refine ⟨by omega, h1 _ ?_⟩
  have ez : (List.replicate rs.length (PyData.int 0)) = (List.replicate rs.length (0 : Int)).map .int := by simp [-po_comp]
  rw [ez]
  refine po_step fun K2 h2 r2 _ _ => ?_
  simp [-po_comp]
  refine po_mono (pairs_ok hw hb b1 w1 n1 hlim) ?_
  rintro _ _ ⟨all, rfl, hS⟩
  simp [-po_comp]
  refine po_forK (f := pD) (fun done r => ∃ (q : St.P2) (rest : List St.P2) (s4 s5 : Sl), r = [.v (.int w), .v (TT rs), .v (T W), .v (pD q), s4, s5, .unk] ∧ s4.isIo = false ∧ s5.isIo = false ∧ q.1.length = w ∧ q.2.length = rs.length ∧ (∀ i, St.vec q.1 i = St.vec W i + St.dot q.2 rs i) ∧ all = done ++ rest ∧ St.Stair (rest.map fun p => St.vec p.1) ∧ (St.Sl (rest.map fun p => St.vec p.1) (St.vec q.1) ↔ St.Sl (rs.map St.vec) (St.vec W)) ∧ (∀ x, St.Ent q x → x.natAbs < 2 ^ (e + done.length + St.cc b w)) ∧ ∀ p ∈ rest, ∀ j, St.Ft (St.vec p.1) j → (St.vec q.1 j).natAbs ≤ 2 ^ (e + done.length) * (St.vec p.1 j).natAbs) all _ ⟨(W, List.replicate rs.length 0), all, .unk, .unk, by simp [-po_comp, pD_eq], rfl, rfl, hW, by simp, fun i => by simp [-po_comp, St.dot_zero], rfl, hS.st, hS.sp _, ?_, fun p hp j hj => ?_⟩ ?_ ?_
  · intro x hx
    rcases hx with hx | hx
    · exact Nat.lt_of_lt_of_le (hWb x hx) (Nat.pow_le_pow_right (by decide) (by omega))
    · rw [List.eq_of_mem_replicate hx]
      exact Nat.pow_pos (by decide)
  · have h2 : (St.vec W j).natAbs ≤ 2 ^ e := by
      rcases Nat.lt_or_ge j W.length with c | c
      · exact Nat.le_of_lt (hWb _ (St.vec_mem c))
      · rw [St.vec_out c]
        exact Nat.zero_le _
    have h3 : 1 ≤ (St.vec p.1 j).natAbs := by have := hj.2; omega
    exact Nat.le_trans h2 (Nat.le_mul_of_pos_right _ h3)
  · rintro done p rst r hs ⟨q, rest, s4, s5, rfl, q4, q5, hq1, hq2, hq3, hal, hst, hiff, hbd, hfb⟩
    have er : rest = p :: rst := by
      rw [hs] at hal
      exact (List.append_cancel_left hal).symm
    subst er
    have hp : p ∈ all := by rw [hs]; simp [-po_comp]
    obtain ⟨lp1, lp2⟩ := hS.len p hp
    have hst' : St.Stair (St.vec p.1 :: rst.map fun p => St.vec p.1) := hst
    cases hst' with
    | @cons _ _ k hk hz hsm ht =>
    obtain ⟨rfl, lk⟩ := ft_fo hk
    have hdl : done.length + 1 ≤ w := by
      have h9 := hS.le
      have : all.length = done.length + (rst.length + 1) := by rw [hs]; simp [-po_comp]
      omega
    refine ⟨[.v (.int w), .v (TT rs), .v (T W), .v (pD q), .v (pD p), s5, .unk], by simp [-po_comp, q4], fun K3 h3 r3 _ _ => ?_⟩
    refine po_step fun K4 h4 r4 _ _ => ?_
    rw [pD_eq p]
    simp [-po_comp]
    refine po_mono (foot_ok p.1 (by omega)) ?_
    rintro _ _ rfl
    have e0 : ftD p.1 = .int (fo p.1 : Nat) := if_pos lk
    rw [e0]
    simp [-po_comp, q5]
    refine h4 _ ?_
    refine po_step fun K5 h5 r5 _ _ => ?_
    have e1 := at_vt (p := q) (k := fo p.1) (by omega)
    have e2 := at_vt (p := p) lk
    have pne : ¬ St.vt p (fo p.1) = 0 := by have := hk.2; exact fun z => by unfold St.vt at z; omega
    rw [pD_eq q]
    have hred := St.Stair.red (x := St.vec q.1) hk hz
    have hri := red_iff (x := St.vec q.1) hk hz
    simp [-po_comp, e1, e2, pne]
    by_cases c1 : (St.vt q (fo p.1)).fmod (St.vt p (fo p.1)) = 0
    · rw [if_pos c1]
      refine h5 _ ?_
      simp [-po_comp, e1, e2, pne]
      have hm : ((St.vt q (fo p.1)).fdiv (St.vt p (fo p.1))).natAbs ≤ 2 ^ (e + done.length) := by
        have e1 := St.fdiv_fmod (St.vt q (fo p.1)) (St.vt p (fo p.1))
        have e2 := hfb p (List.mem_cons_self ..) _ hk
        have e3 : (St.vt q (fo p.1)).natAbs = ((St.vt q (fo p.1)).fdiv (St.vt p (fo p.1))).natAbs * (St.vt p (fo p.1)).natAbs := by
          rw [← Int.natAbs_mul]
          congr 1
          omega
        have e4 : (St.vt q (fo p.1)).natAbs ≤ 2 ^ (e + done.length) * (St.vt p (fo p.1)).natAbs := e2
        rw [e3] at e4
        exact Nat.le_of_mul_le_mul_right e4 (by have : 0 < St.vt p (fo p.1) := hk.2; omega)
      have em : (St.vec q.1 (fo p.1)).fdiv (St.vec p.1 (fo p.1)) = (St.vt q (fo p.1)).fdiv (St.vt p (fo p.1)) := rfl
      rw [em] at hri
      generalize (St.vt q (fo p.1)).fdiv (St.vt p (fo p.1)) = m at *
      have hlimk : e + done.length + St.cc b w + 5 < 100000000 := by omega
      have hl1 : q.1.length = p.1.length := by omega
      have hl2 : q.2.length = p.2.length := by omega
      refine po_mono (less_ok (p := q) (q := p) (m := m) ⟨hl1, hl2⟩ ⟨by omega, by omega⟩ fun y hy => mulOk_b (b := e + done.length + 1) (c := St.cc b w) ?_ (hS.bd p hp y hy) (by omega)) ?_
      · have := Nat.pow_succ 2 (e + done.length)
        have : 0 < 2 ^ (e + done.length) := Nat.pow_pos (by decide)
        omega
      rintro _ _ rfl
      simp [-po_comp]
      have ev : St.vec (St.less q p m).1 = fun i => St.vec q.1 i - m * St.vec p.1 i := funext fun i => St.vec_lsl hl1 i
      refine h3 _ ⟨St.less q p m, rst, .v (pD p), .v (.int (fo p.1 : Nat)), by simp [-po_comp, pD_eq], rfl, rfl, (St.len_lsl hl1).trans hq1, (St.len_lsl hl2).trans hq2, fun i => ?_, by rw [hs]; simp, ht, ?_, fun x hx => ?_, fun p' hp' j hj => ?_⟩
      · rw [ev]
        show St.vec q.1 i - m * St.vec p.1 i = St.vec W i + St.dot (St.lsl q.2 p.2 m) rs i
        rw [St.dot_lsl hl2, hq3 i, hS.mx p hp i]
        omega
      · rw [← hiff, ev]
        exact hri.symm
      · have h9 : e + (done ++ [p]).length + St.cc b w = e + done.length + St.cc b w + 1 := by
          rw [List.length_append, List.length_singleton]
          omega
        rw [h9]
        have hps : ∀ {x y : Nat}, x < 2 ^ (e + done.length + St.cc b w) → y < 2 ^ St.cc b w → x + m.natAbs * y < 2 ^ (e + done.length + St.cc b w + 1) := fun {x y} h1 h2 => by
          have h3 := Nat.mul_le_mul hm (Nat.le_of_lt h2)
          rw [← Nat.pow_add] at h3
          rw [Nat.pow_succ]
          omega
        rcases hx with hx | hx
        · obtain ⟨u, hu, v, hv, rfl⟩ := St.mem_lsl hx
          have h7 := St.abs_sub_mul u m v
          have h8 := hps (hbd u (.inl hu)) (hS.bd p hp v (.inl hv))
          omega
        · obtain ⟨u, hu, v, hv, rfl⟩ := St.mem_lsl hx
          have h7 := St.abs_sub_mul u m v
          have h8 := hps (hbd u (.inr hu)) (hS.bd p hp v (.inr hv))
          omega
      · have h9 : 2 ^ (e + (done ++ [p]).length) = 2 ^ (e + done.length) * 2 := by
          rw [List.length_append, List.length_singleton, ← Nat.add_assoc, Nat.pow_succ]
        have h5 := hfb p' (List.mem_cons_of_mem _ hp') j hj
        have h6 := hsm _ (List.mem_map.mpr ⟨p', hp', rfl⟩) j hj
        have h7 : (m * St.vec p.1 j).natAbs ≤ 2 ^ (e + done.length) * (St.vec p'.1 j).natAbs := by
          rw [Int.natAbs_mul]
          exact Nat.mul_le_mul hm (by omega)
        have h10 : 2 ^ (e + done.length) * 2 * (St.vec p'.1 j).natAbs = 2 * (2 ^ (e + done.length) * (St.vec p'.1 j).natAbs) := by rw [Nat.mul_comm _ 2, Nat.mul_assoc]
        rw [ev, h9, h10]
        show (St.vec q.1 j - m * St.vec p.1 j).natAbs ≤ _
        generalize m * St.vec p.1 j = z at *
        generalize 2 ^ (e + done.length) * (St.vec p'.1 j).natAbs = y at *
        omega
    · rw [if_neg c1]
      refine r5 _ _ (r3 _ _ (r2 _ _ (hK _ _ _ rfl (.inl ⟨fun z => c1 ?_, rfl⟩))))
      exact Int.fmod_eq_zero_of_dvd (hred.mp (hiff.mpr z)).1
  · rintro r ⟨q, rest, s4, s5, rfl, q4, q5, hq1, hq2, hq3, hal, hst, hiff, hbd, hfb⟩
    have er : rest = [] := by
      have := congrArg List.length hal
      simp [-po_comp] at this
      exact this
    subst er
    refine h2 _ ?_
    refine po_step fun K3 h3 r3 _ _ => ?_
    rw [pD_eq q]
    simp [-po_comp]
    refine po_mono (foot_ok q.1 (by omega)) ?_
    rintro _ _ rfl
    simp [-po_comp, isnt_ftD]
    have hz0 : St.Sl (rs.map St.vec) (St.vec W) ↔ ∀ i, St.vec q.1 i = 0 := hiff.symm.trans St.sl_nil
    split
    · rename_i c1
      exact r3 _ _ (hK _ _ _ rfl (.inl ⟨fun z => fo_nz q.1 c1 (hz0.mp z _), rfl⟩))
    · rename_i c1
      refine h3 _ ?_
      have hq0 : ∀ i, St.vec q.1 i = 0 := fun i => by
        rcases Nat.lt_or_ge i q.1.length with c2 | c2
        · exact fo_z q.1 i (by omega)
        · exact St.vec_out c2
      simp [-po_comp]
      refine po_LC1 (f := fun x : Int => .int x) (g := fun x : Int => .int (-x)) q.2 (by simp [-po_comp]) (by simp [-po_comp, noOwn_cons]) (by omega) ?_ ?_
      · intro x hx
        simp [-po_comp]
      · simp [-po_comp]
        refine hK _ _ _ rfl (.inr ⟨q.2.map fun x => -x, by simp, by simpa using hq2, fun x hx => by
          obtain ⟨y, hy, rfl⟩ := List.mem_map.mp hx
          rw [Int.natAbs_neg]
          refine Nat.lt_of_lt_of_le (hbd y (.inr hy)) (Nat.pow_le_pow_right (by decide) (by have := hS.le; omega)), fun i => ?_⟩)
        have h1 := hq3 i
        rw [hq0 i] at h1
        rw [dot_neg]
        omega
end K14.M
namespace K14
open PySem Pu L2
open Dg (sm sm_add sm_congr sm_only sm_zero)
open K14.M (T TT fo)
/-! ### rows by their feet, of any width -/
theorem vK_selfK {κ : Type} [DecidableEq κ] (kvs : List (κ × D)) (k : κ) (d : D) : vK (pK kvs k d) k = some d := by
  unfold pK
  split
  · rename_i h
    unfold vK
    induction kvs with
    | nil => simp [-po_comp] at h
    | cons kv kvs ih =>
      rw [List.map_cons]
      by_cases e : kv.1 = k
      · rw [if_pos e, List.find?_cons_of_pos (by simpa using e)]
        rfl
      · rw [if_neg e, List.find?_cons_of_neg (by simpa using e)]
        exact ih (by simpa [e] using h)
  · rename_i h
    unfold vK
    rw [List.find?_append]
    have : kvs.find? (fun kv => decide (kv.1 = k)) = none := by
      rw [List.find?_eq_none]
      intro x hx z
      exact h (List.any_eq_true.mpr ⟨x, hx, z⟩)
    rw [this]
    simp [-po_comp]
theorem vK_mapK {κ : Type} [DecidableEq κ] {k k' : κ} {d : D} (h : k' ≠ k) : ∀ kvs : List (κ × D), vK (kvs.map fun kv => if kv.1 = k then (kv.1, d) else kv) k' = vK kvs k'
  | [] => rfl
  | kv :: kvs => by
    have ih := vK_mapK (d := d) h kvs
    unfold vK at ih ⊢
    rw [List.map_cons]
    by_cases e : kv.1 = k'
    · have e2 : ¬ kv.1 = k := fun z => h (e.symm.trans z)
      rw [if_neg e2, List.find?_cons_of_pos (by simpa using e), List.find?_cons_of_pos (by simpa using e)]
    · have e3 : ¬ (if kv.1 = k then (kv.1, d) else kv).1 = k' := by
        split
        · exact e
        · exact e
      rw [List.find?_cons_of_neg (by simpa using e3), List.find?_cons_of_neg (by simpa using e)]
      exact ih
theorem vK_neK {κ : Type} [DecidableEq κ] {kvs : List (κ × D)} {k k' : κ} {d : D} (h : k' ≠ k) : vK (pK kvs k d) k' = vK kvs k' := by
  unfold pK
  split
  · exact vK_mapK h kvs
  · unfold vK
    rw [List.find?_append]
    cases hf : kvs.find? fun kv => decide (kv.1 = k') with
    | some x => simp [-po_comp]
    | none => simp [-po_comp, h, Ne.symm h]
theorem pK_len {κ : Type} [DecidableEq κ] (kvs : List (κ × D)) (k : κ) (d : D) : (pK kvs k d).length ≤ kvs.length + 1 := by
  unfold pK
  split
  · simp [-po_comp]
  · simp [-po_comp]
/-- the row at a foot, nought where there is none -/
def rw' (bo : Nat → Option (List Int)) (i : Nat) : St.Ve := match bo i with
  | some r => St.vec r
  | none => fun _ => 0
structure Kv (n : Nat) (kvs : List (Key × D)) (bo : Nat → Option (List Int)) : Prop where
  len : kvs.length ≤ n
  at_ : ∀ i : Nat, vK kvs (.inl (i : Int)) = (bo i).map T
def updB (bo : Nat → Option (List Int)) (i : Nat) (r : List Int) : Nat → Option (List Int) := fun k => if k = i then some r else bo k
theorem Kv.put {n : Nat} {kvs : List (Key × D)} {bo : Nat → Option (List Int)} (h : Kv n kvs bo) (i : Nat) (r : List Int) : Kv (n + 1) (pK kvs (.inl (i : Int)) (T r)) (updB bo i r) := by
  refine ⟨Nat.le_trans (pK_len ..) (Nat.succ_le_succ h.len), fun k => ?_⟩
  unfold updB
  by_cases c : k = i
  · subst c
    rw [vK_selfK, if_pos rfl]
    rfl
  · rw [vK_neK (fun z => c (by have := Sum.inl.inj z; omega)), if_neg c]
    exact h.at_ k
theorem Kv.nil : Kv 0 [] fun _ => none := ⟨Nat.le_refl _, fun i => rfl⟩
theorem rw_upd {bo : Nat → Option (List Int)} {i : Nat} {r : List Int} : rw' (updB bo i r) i = St.vec r := by unfold rw' updB; rw [if_pos rfl]
theorem rw_upd' {bo : Nat → Option (List Int)} {i k : Nat} {r : List Int} (h : k ≠ i) : rw' (updB bo i r) k = rw' bo k := by unfold rw' updB; rw [if_neg h]
theorem rw_some {bo : Nat → Option (List Int)} {i : Nat} {r : List Int} (h : bo i = some r) : rw' bo i = St.vec r := by unfold rw'; rw [h]
theorem rw_none {bo : Nat → Option (List Int)} {i : Nat} (h : bo i = none) : rw' bo i = fun _ => 0 := by unfold rw'; rw [h]
theorem upd_self {bo : Nat → Option (List Int)} {i : Nat} {r : List Int} (h : bo i = some r) : updB bo i r = bo := by
  funext k
  unfold updB
  split
  · rename_i e
    rw [e, h]
  · rfl
/-- a row less so many times another one -/
def les (o r : List Int) (q : Int) : List Int := List.zipWith (fun a b => a - q * b) o r
theorem les_vec {o r : List Int} {q : Int} (h : o.length = r.length) (k : Nat) : St.vec (les o r q) k = St.vec o k - q * St.vec r k := by
  unfold St.vec les
  simp only [List.getD, List.getElem?_zipWith]
  by_cases c : k < o.length
  · rw [List.getElem?_eq_getElem c, List.getElem?_eq_getElem (by omega)]
    rfl
  · rw [List.getElem?_eq_none (by omega), List.getElem?_eq_none (by omega)]
    simp [-po_comp]
theorem les_len {o r : List Int} {q : Int} (h : o.length = r.length) : (les o r q).length = r.length := by
  unfold les
  rw [List.length_zipWith]
  omega
theorem sm_upd {w i : Nat} (hi : i < w) {f g : Nat → Int} (h : ∀ j, j < w → j ≠ i → f j = g j) : sm w f = sm w g + (f i - g i) := by
  have e : sm w f = sm w fun j => g j + (f j - g j) := sm_congr fun j _ => by omega
  rw [e, sm_add, sm_only (f := fun j => f j - g j) hi fun j hj ne => by rw [h j hj ne]; omega]
/-- words that the rows come to -/
def SpB (w : Nat) (bo : Nat → Option (List Int)) (x : St.Ve) : Prop := ∃ c : Nat → Int, ∀ k, x k = sm w fun i => c i * rw' bo i k
/-- and one row more -/
def SpR (w : Nat) (bo : Nat → Option (List Int)) (r : List Int) (x : St.Ve) : Prop := ∃ c : Int, SpB w bo fun k => x k - c * St.vec r k
section
variable {w : Nat} {bo : Nat → Option (List Int)} {i : Nat}
theorem SpB.cong {x y : St.Ve} (h : SpB w bo x) (e : ∀ k, x k = y k) : SpB w bo y := by
  obtain ⟨c, hc⟩ := h
  exact ⟨c, fun k => by rw [← e k]; exact hc k⟩
/-- without the row at a foot -/
def rem (bo : Nat → Option (List Int)) (i : Nat) : Nat → Option (List Int) := fun k => if k = i then none else bo k
theorem rw_rem : rw' (rem bo i) i = fun _ => 0 := by unfold rw' rem; rw [if_pos rfl]
theorem rw_rem' {k : Nat} (h : k ≠ i) : rw' (rem bo i) k = rw' bo k := by unfold rw' rem; rw [if_neg h]
theorem SpB.upd (hi : i < w) {r : List Int} (x : St.Ve) : SpB w (updB bo i r) x ↔ ∃ c : Int, SpB w (rem bo i) fun k => x k - c * St.vec r k := by
  constructor
  · rintro ⟨c, e⟩
    refine ⟨c i, c, fun k => ?_⟩
    have := e k
    rw [sm_upd (g := fun j => c j * rw' (rem bo i) j k) hi fun j _ ne => by rw [rw_upd' ne, rw_rem' ne]] at this
    simp only [rw_upd, rw_rem, Int.mul_zero] at this ⊢
    omega
  · rintro ⟨d, c, e⟩
    refine ⟨fun j => if j = i then d else c j, fun k => ?_⟩
    have := e k
    rw [sm_upd (g := fun j => c j * rw' (rem bo i) j k) hi fun j _ ne => by show (if j = i then d else c j) * _ = _; rw [rw_upd' ne, rw_rem' ne, if_neg ne]]
    simp only [rw_upd, rw_rem, Int.mul_zero, if_true] at this ⊢
    omega
theorem rem_self (h : bo i = none) : rem bo i = bo := by
  funext k
  unfold rem
  split
  · rename_i e
    rw [e, h]
  · rfl
/-- a row put where none was -/
theorem SpB.new (hi : i < w) {r : List Int} (h : bo i = none) (x : St.Ve) : SpB w (updB bo i r) x ↔ SpR w bo r x := by
  rw [SpB.upd hi, rem_self h]
  rfl
/-- a row of noughts -/
theorem SpR.zero {r : List Int} (h : ∀ k, St.vec r k = 0) (x : St.Ve) : SpR w bo r x ↔ SpB w bo x := by
  constructor
  · rintro ⟨c, h2⟩
    exact h2.cong fun k => by rw [h k]; omega
  · intro h2
    exact ⟨0, h2.cong fun k => by omega⟩
theorem SpR.upd (hi : i < w) {o r : List Int} (x : St.Ve) : SpR w (updB bo i o) r x ↔ ∃ a b : Int, SpB w (rem bo i) fun k => x k - a * St.vec o k - b * St.vec r k := by
  constructor
  · rintro ⟨b, h⟩
    obtain ⟨a, h⟩ := (SpB.upd hi _).mp h
    exact ⟨a, b, h.cong fun k => by omega⟩
  · rintro ⟨a, b, h⟩
    exact ⟨b, (SpB.upd hi _).mpr ⟨a, h.cong fun k => by omega⟩⟩
/-- a turn of the common measure: the same words -/
theorem SpR.turn (hi : i < w) {o r : List Int} {q : Int} (hl : o.length = r.length) (x : St.Ve) : SpR w (updB bo i r) (les o r q) x ↔ SpR w (updB bo i o) r x := by
  rw [SpR.upd hi, SpR.upd hi]
  constructor
  · rintro ⟨a, b, h⟩
    exact ⟨b, a - b * q, h.cong fun k => by rw [les_vec hl]; grind⟩
  · rintro ⟨a, b, h⟩
    exact ⟨b + a * q, a, h.cong fun k => by rw [les_vec hl]; grind⟩
theorem SpB.nought {x : St.Ve} (h : ∀ k, x k = 0) : SpB w bo x := ⟨fun _ => 0, fun k => by rw [h k, sm_zero]; intro j _; exact Int.zero_mul _⟩
/-- a row of the rows taken off -/
theorem SpB.off (hi : i < w) {r : List Int} (h : bo i = some r) (q : Int) (x : St.Ve) : SpB w bo (fun k => x k - q * St.vec r k) ↔ SpB w bo x := by
  have e : updB bo i r = bo := upd_self h
  rw [← e, SpB.upd hi, SpB.upd hi]
  constructor
  · rintro ⟨c, h⟩
    exact ⟨c + q, h.cong fun k => by grind⟩
  · rintro ⟨c, h⟩
    exact ⟨c - q, h.cong fun k => by grind⟩
/-- what a word of the rows is at its first number -/
theorem SpB.foot (z : ∀ j r, bo j = some r → (∀ k, k < j → St.vec r k = 0) ∧ St.vec r j ≠ 0) {x : St.Ve} (hi : i < w) (hz : ∀ k, k < i → x k = 0) (h : SpB w bo x) : (bo i = none → x i = 0) ∧ ∀ r, bo i = some r → St.vec r i ∣ x i := by
  obtain ⟨c, e⟩ := h
  have z0 : ∀ j k, k < j → rw' bo j k = 0 := fun j k hk => by
    cases hb : bo j with
    | none => rw [rw_none hb]
    | some r =>
      rw [rw_some hb]
      exact (z j r hb).1 k hk
  have key : ∀ n j, j < n → j < i → ∀ k, c j * rw' bo j k = 0 := fun n => by
    induction n with
    | zero => exact fun j hj => absurd hj (Nat.not_lt_zero j)
    | succ n ih =>
      intro j hj hji k
      have h0 := e j
      rw [hz j hji, sm_only (i := j) (by omega) fun l _ ne => by
        rcases Nat.lt_or_ge l j with q | q
        · exact ih l (by omega) (by omega) j
        · rw [z0 l j (by omega), Int.mul_zero]] at h0
      cases hb : bo j with
      | none => rw [rw_none hb, Int.mul_zero]
      | some r =>
        rw [rw_some hb] at h0 ⊢
        rcases Int.mul_eq_zero.mp h0.symm with q | q
        · rw [q, Int.zero_mul]
        · exact ((z j r hb).2 q).elim
  have h0 := e i
  rw [sm_only (i := i) hi fun l _ ne => by
    rcases Nat.lt_or_ge l i with q | q
    · exact key (l + 1) l (by omega) q i
    · rw [z0 l i (by omega), Int.mul_zero]] at h0
  exact ⟨fun hn => by rw [h0, rw_none hn, Int.mul_zero], fun r hr => by rw [h0, rw_some hr]; exact Int.dvd_mul_left ..⟩
end
end K14
namespace K14.L
open PySem Pu L2
def PenL (c : Ct) : Prop := ∃ a b k : Int, c = .l [.int a, .int b, .int k] ∧ 0 ≤ a
def DrL (n : Int) (rv : RV) (z : List Sl) : Prop := ∃ k c t, rv = .v (.int k) ∧ 0 ≤ k ∧ k < n ∧ z = .io c :: t ∧ PenL c
theorem at0 (x y z : D) : atI [x, y, z] 0 = some x := rfl
theorem at1 (x y z : D) : atI [x, y, z] 1 = some y := rfl
theorem at2 (x y z : D) : atI [x, y, z] 2 = some z := rfl
theorem ix0 : ixN 3 0 = some 0 := rfl
theorem ix2 : ixN 3 2 = some 2 := rfl
theorem draw_ok {X : Exn → En → Prop} {p : Ct} {n : Int} (hp : PenL p) (hn : 0 < n) (hn2 : n < 2 ^ 63) : Wp X (m__law_draw [.io p, .v (.int n)]) (DrL n) := by
  obtain ⟨a, b, k, rfl, ha⟩ := hp
  refine po_fn ?_
  unfold b__law_draw DrL
  have hp1 : ∀ x : Int, 0 ≤ x.fmod n := fun x => (fmod_pos x hn).1
  have hp2 : ∀ x : Int, x.fmod n < n := fun x => (fmod_pos x hn).2
  have hn' : ¬ n = 0 := by omega
  have fin1 : ∀ j, PenL (.l [.int a, .int b, .int j]) := fun j => ⟨a, b, j, rfl, ha⟩
  have fin2 : ∀ j, PenL (.l [.int (a.fdiv n), .int b, .int j]) := fun j => ⟨_, b, j, rfl, fdiv_nn ha hn⟩
  simp [-po_comp, po_seq, Int.fmod_eq_emod_of_nonneg, Int.fdiv_eq_ediv_of_nonneg, hn', hp1, hp2, fin1, fin2, at0, at1, at2, ix0, ix2]
theorem pen_ok {X : Exn → En → Prop} (ns : List Int) (k : Nat) : Wp X (m__law_pen [.v (.list (ns.map .int)), .v (.int k)]) fun rv _ => ∃ c, rv = .o c ∧ PenL c := by
  refine po_fnK fun Y K hY hK _ => ?_
  unfold b__law_pen
  refine po_step fun K1 h1 _ _ _ => ?_
  simp [-po_comp]
  refine h1 _ ?_
  have rest : ∀ x : Int, Wp Y ((sSeq (sIf (tBool (Pu.bin geD (nry (one absD) (aCons (getS 2) aNil)) (Pu.bin powD (M.ret (.int 10)) (M.ret (.int 18)))))
  (sRet (oLst (aCons (Pu.bin subD (nry (one absD) (aCons (getS 2) aNil)) (Pu.bin powD (M.ret (.int 10)) (M.ret (.int 18)))) (aCons (Pu.bin modD (getS 2) (M.ret (.int 2147483587))) (aCons (M.ret (.int 0)) aNil)))))
  sNil)
  (sRet (oLst (aCons (M.ret (.int 0)) (aCons (Pu.bin addD (Pu.bin modD (getS 2) (M.ret (.int 2147483587))) (Pu.bin mulD (M.ret (.int 12289)) (getS 1))) (aCons (M.ret (.int 0)) aNil)))))) [.v (.list (ns.map .int)), .v (.int k), .v (.int x)]) K := by
    intro x
    refine po_step fun K3 h3 r3 _ _ => ?_
    by_cases h0 : x < 0
    · simp [-po_comp, h0]
      split
      · refine r3 _ _ ?_
        exact hK _ _ _ rfl ⟨_, rfl, -x - 1000000000000000000, _, _, rfl, by omega⟩
      · refine h3 _ ?_
        simp [-po_comp]
        exact hK _ _ _ rfl ⟨_, rfl, 0, _, _, rfl, by omega⟩
    · simp [-po_comp, h0]
      split
      · refine r3 _ _ ?_
        exact hK _ _ _ rfl ⟨_, rfl, x - 1000000000000000000, _, _, rfl, by omega⟩
      · refine h3 _ ?_
        simp [-po_comp]
        exact hK _ _ _ rfl ⟨_, rfl, 0, _, _, rfl, by omega⟩
  refine po_step fun K2 h2 _ _ _ => ?_
  by_cases hk : k < ns.length
  · simp [-po_comp, hk]
    exact h2 _ (rest _)
  · by_cases hl : 0 < ns.length
    · have hm : k % ns.length < ns.length := Nat.mod_lt _ hl
      obtain ⟨x, e⟩ : ∃ x, ns[k % ns.length]? = some x := ⟨_, List.getElem?_eq_getElem hm⟩
      have e2 : atI (ns.map PyData.int) ((k : Int).fmod (ns.length : Int)) = some (.int x) := by
        rw [fmod_nat, Pu.atI_nat, List.getElem?_map, e]
        rfl
      have hne : ns ≠ [] := fun z => by rw [z] at hl; simp [-po_comp] at hl
      simp [-po_comp, hk, hl, e2, hne]
      exact h2 _ (rest _)
    · have hne : ns = [] := List.length_eq_zero_iff.mp (by omega)
      subst hne
      simp [-po_comp]
      exact h2 _ (rest _)
abbrev T (xs : List Int) : D := .tuple (xs.map .int)
abbrev TT (rs : List (List Int)) : D := .tuple (rs.map fun r => T r)
/-- rows, the k-th of them of b + k bits -/
def Rw (w b : Nat) (rs : List (List Int)) : Prop := ∀ i r, rs[i]? = some r → r.length = w ∧ ∀ x ∈ r, x.natAbs < 2 ^ (b + i)
theorem Rw.app {w b : Nat} {rs : List (List Int)} {r : List Int} (h : Rw w b rs) (h1 : r.length = w) (h2 : ∀ x ∈ r, x.natAbs < 2 ^ (b + rs.length)) : Rw w b (rs ++ [r]) := fun i q hq => by
  rcases Nat.lt_or_ge i rs.length with c | c
  · rw [List.getElem?_append_left c] at hq
    exact h i q hq
  · rw [List.getElem?_append_right c] at hq
    obtain ⟨h3, h4⟩ := List.getElem?_eq_some_iff.mp hq
    simp [-po_comp] at h3
    have h5 : i = rs.length := by omega
    subst h5
    simp [-po_comp] at h4
    rw [← h4]
    exact ⟨h1, h2⟩
def bits (way : Int) : Nat := if way < 6 then 30 else 3
def row (rs : List (List Int)) (i : Nat) : List Int := rs.getD i []
theorem row_at {rs : List (List Int)} {i : Nat} (h : i < rs.length) : rs[i]? = some (row rs i) := by
  unfold row
  rw [List.getD, List.getElem?_eq_getElem h]
  rfl
theorem atTT {rs : List (List Int)} {i : Nat} (h : i < rs.length) : (rs.map fun r => T r)[i]? = some (T (row rs i)) := by
  rw [List.getElem?_map, row_at h]
  rfl
theorem sg {a y : Int} (h : a = 1 ∨ a = -1) : (a * y).natAbs = y.natAbs := by
  rcases h with rfl | rfl
  · rw [Int.one_mul]
  · rw [Int.neg_one_mul, Int.natAbs_neg]
theorem shaped_TT (xs : List (List Int)) : SeqAt.shaped (.list (xs.map fun a => T a)) = true := by
  refine Bool.and_eq_true_iff.mpr ⟨?_, decide_eq_true ?_⟩
  · show PyData.canLayAll0 (xs.map fun a => T a) = true
    induction xs with
    | nil => rfl
    | cons x xs ih => exact Bool.and_eq_true_iff.mpr ⟨lay_ints x, ih⟩
  · have := depthAll_map (fun a => T a) 2 xs fun x _ => by
      have := depthAll_map PyData.int 1 x fun x _ => by simp [-po_comp, PyData.depth]
      simp only [PyData.depth]
      omega
    simp only [PyData.depth]
    omega
theorem ne_nil (xs : List (List Int)) : neD (.list (xs.map fun a => T a)) (.list []) = some (.bool (!decide (xs = []))) := by
  rw [neD_ll (shaped_TT xs) rfl]
  cases xs with
  | nil => rfl
  | cons x xs => rw [SeqAt.eqvAll_other_length (by simp [-po_comp])]; simp [-po_comp]
theorem number_ok {X : Exn → En → Prop} {p : Ct} {way : Int} (hp : PenL p) (h0 : 0 ≤ way) : Wp X (m__law_number [.io p, .v (.int way)]) fun rv z => ∃ (k : Int) (c : Ct) (t : List Sl), rv = .v (.int k) ∧ k.natAbs < 2 ^ bits way ∧ z = .io c :: t ∧ PenL c := by
  refine po_fnK fun Y K hY hK _ => ?_
  unfold b__law_number
  refine po_step fun K1 h1 r1 _ _ => ?_
  simp [-po_comp]
  refine po_mono (draw_ok hp (by decide) (by decide)) ?_
  rintro _ _ ⟨v, c, t, rfl, v0, v1, rfl, hp⟩
  have hsg : 1 - 2 * v = 1 ∨ 1 - 2 * v = -1 := by omega
  have hsm : ∀ y, mulOk (1 - 2 * v) y := fun y => mulOk_l ⟨by omega, by omega⟩
  simp [-po_comp]
  refine h1 _ ?_
  refine po_step fun K2 h2 r2 _ _ => ?_
  by_cases w4 : way < 4
  · simp [-po_comp, w4]
    refine po_mono (draw_ok hp (by decide) (by decide)) ?_
    rintro _ _ ⟨u, c, t, rfl, u0, u1, rfl, hp⟩
    obtain ⟨d, e1, y, rfl, y0, y1⟩ := atI_all (P := fun d : D => ∃ y : Int, d = .int y ∧ 2 ≤ y ∧ y ≤ 100) (xs := [.int 4, .int 4, .int 2, .int 13, .int 100]) (n := u) u0 (by simp [-po_comp]; omega) (by
      intro d hd
      simp only [List.mem_cons, List.not_mem_nil, or_false] at hd
      rcases hd with rfl | rfl | rfl | rfl | rfl <;> exact ⟨_, rfl, by decide, by decide⟩)
    simp [-po_comp, e1]
    refine po_mono (draw_ok hp (by omega) (by omega)) ?_
    rintro _ _ ⟨u, c, t, rfl, u0, u1, rfl, hp⟩
    simp [-po_comp]
    refine ⟨hsm _, r2 _ _ ?_⟩
    exact hK _ _ _ rfl ⟨_, c, _, rfl, by rw [sg hsg, bits, if_pos (by omega)]; omega, rfl, hp⟩
  simp [-po_comp, w4]
  refine h2 _ ?_
  refine po_step fun K3 h3 r3 _ _ => ?_
  by_cases w6 : way < 6
  · simp [-po_comp, w6]
    refine po_step fun K4 h4 r4 _ _ => ?_
    simp [-po_comp]
    refine po_mono (draw_ok hp (by decide) (by decide)) ?_
    rintro _ _ ⟨u, c, t, rfl, u0, u1, rfl, hp⟩
    simp [-po_comp]
    refine h4 _ ?_
    simp [-po_comp]
    refine po_mono (draw_ok hp (by decide) (by decide)) ?_
    rintro _ _ ⟨x, c, t, rfl, x0, x1, rfl, hp⟩
    obtain ⟨d, e1, y, rfl, y0, y1⟩ := atI_all (P := fun d : D => ∃ y : Int, d = .int y ∧ 0 ≤ y ∧ y ≤ 10 ^ 9) (xs := [.int u, .int (10 ^ 6 - 1 - u), .int (10 ^ 9 - 1 - u)]) (n := x) x0 (by simp [-po_comp]; omega) (by
      intro d hd
      simp only [List.mem_cons, List.not_mem_nil, or_false] at hd
      rcases hd with rfl | rfl | rfl <;> exact ⟨_, rfl, by omega, by omega⟩)
    simp [-po_comp] at e1
    simp [-po_comp, e1]
    refine ⟨hsm _, r3 _ _ ?_⟩
    exact hK _ _ _ rfl ⟨_, c, _, rfl, by rw [sg hsg, bits, if_pos w6]; omega, rfl, hp⟩
  simp [-po_comp, w6]
  refine h3 _ ?_
  simp [-po_comp]
  refine po_mono (draw_ok hp (by decide) (by decide)) ?_
  rintro _ _ ⟨u, c, t, rfl, u0, u1, rfl, hp⟩
  by_cases z : u = 0
  · simp [-po_comp, z]
    exact hK _ _ _ rfl ⟨_, c, _, rfl, by rw [bits, if_neg w6]; omega, rfl, hp⟩
  · simp [-po_comp, z]
    exact hK _ _ _ rfl ⟨_, c, _, rfl, by rw [bits, if_neg w6]; omega, rfl, hp⟩
theorem slanted_ok {X : Exn → En → Prop} {p : Ct} {w : Nat} {k : Nat} (hp : PenL p) (hw : 1 ≤ w) (hw2 : w ≤ 14) : Wp X (m__law_slanted [.io p, .v (.int w), .v (.int k)]) fun rv z => ∃ (r : List Int) (c : Ct) (t : List Sl), rv = .v (T r) ∧ r.length = w ∧ (∀ x ∈ r, x.natAbs < 2 ^ 3) ∧ z = .io c :: t ∧ PenL c := by
  refine po_fnK fun Y K hY hK _ => ?_
  unfold b__law_slanted
  refine po_step fun K1 h1 r1 _ _ => ?_
  simp [-po_comp]
  refine ⟨by omega, ?_⟩
  refine h1 _ ?_
  have e0 : List.replicate w (PyData.int 0) = (List.replicate w (0 : Int)).map .int := by simp [-po_comp]
  rw [e0]
  have hm : ∀ j : Nat, (j : Int).fmod (w : Int) = ((j % w : Nat) : Int) := fun j => fmod_nat j w
  refine po_step fun K2 h2 r2 _ _ => ?_
  simp [-po_comp]
  refine po_mono (draw_ok hp (by decide) (by decide)) ?_
  rintro _ _ ⟨u, c, t, rfl, u0, u1, rfl, hp⟩
  have ix1 : ixN w ((k % w : Nat) : Int) = some (k % w) := ixN_nat (Nat.mod_lt _ hw)
  have ix2 : ixN w (((k + 1) % w : Nat) : Int) = some ((k + 1) % w) := ixN_nat (Nat.mod_lt _ hw)
  have e1 : ((k : Int) + 1).fmod (w : Int) = (((k + 1) % w : Nat) : Int) := hm (k + 1)
  have w0 : ¬ w = 0 := by omega
  simp [-po_comp, w0]
  rw [hm, ix1]
  simp [-po_comp]
  refine h2 _ ?_
  refine po_step fun K3 h3 r3 _ _ => ?_
  simp [-po_comp]
  refine po_mono (draw_ok hp (by decide) (by decide)) ?_
  rintro _ _ ⟨v, c, t, rfl, v0, v1, rfl, hp⟩
  simp [-po_comp, w0]
  rw [e1, ix2]
  simp [-po_comp]
  refine h3 _ ?_
  simp [-po_comp]
  refine hK _ _ _ rfl ⟨((List.replicate w (0 : Int)).set (k % w) (1 + u)).set ((k + 1) % w) (v - 3), c, _, ?_, by simp, fun x hx => ?_, rfl, hp⟩
  · simp [-po_comp, T, List.map_set]
  · rcases List.mem_or_eq_of_mem_set hx with hx | rfl
    · rcases List.mem_or_eq_of_mem_set hx with hx | rfl
      · rw [(List.mem_replicate.mp hx).2]
        decide
      · omega
    · omega
theorem way_tab {way : Int} (h0 : 0 ≤ way) (h1 : way < 8) : ∃ a m n : Int, atI [.int 0, .int 0, .int 0, .int 0, .int 1, .int 0, .int 5, .int 5] way = some (PyData.int a) ∧ atI [.int 5, .int 5, .int 5, .int 5, .int 2, .int 7, .int 10, .int 10] way = some (PyData.int m) ∧ atI [.int 6, .int 6, .int 6, .int 6, .int 6, .int 3, .int 15, .int 15] way = some (PyData.int n) ∧ 0 ≤ a ∧ 2 ≤ m ∧ a + m ≤ 15 ∧ 1 ≤ n ∧ n ≤ 15 ∧ (way = 7 → 5 ≤ a) ∧ (way < 6 → n ≤ 6) := by
  have : way = 0 ∨ way = 1 ∨ way = 2 ∨ way = 3 ∨ way = 4 ∨ way = 5 ∨ way = 6 ∨ way = 7 := by omega
  rcases this with rfl | rfl | rfl | rfl | rfl | rfl | rfl | rfl <;> exact ⟨_, _, _, rfl, rfl, rfl, by decide, by decide, by decide, by decide, by decide, by decide, by decide⟩
end K14.L
namespace K14
open PySem Pu L2
/-! ### what the common measure's steps multiply by -/
def Sg (p q : Int) : Prop := 0 ≤ p ∧ 0 ≤ q ∨ p ≤ 0 ∧ q ≤ 0
theorem fdm (x p : Int) : x - x.fdiv p * p = x.fmod p := by rw [Int.fmod_def, Int.mul_comm]
theorem sg_mod (p : Int) {q : Int} (h : q ≠ 0) : Sg q (p.fmod q) := by
  rcases Int.lt_or_gt_of_ne h with c | c
  · exact .inr ⟨by omega, (Dg.fmod_neg' p c).1⟩
  · exact .inl ⟨by omega, (Dg.fmod_pos' p c).1⟩
theorem same_div {p q : Int} (h : q ≠ 0) (s : Sg p q) : p.natAbs = (p.fdiv q).natAbs * q.natAbs + (p.fmod q).natAbs := by
  have e := fdm p q
  have hm := Int.natAbs_mul (p.fdiv q) q
  rw [← hm]
  generalize hz : p.fdiv q * q = z at *
  rcases Int.lt_or_gt_of_ne h with c | c
  · obtain ⟨a, b⟩ := Dg.fmod_neg' p c
    have p0 : p ≤ 0 := by rcases s with s | s <;> omega
    have : z ≤ 0 := by
      rcases Int.lt_or_le (p.fdiv q) 0 with d | d
      · have h1 : p.fdiv q ≤ -1 := by omega
        have h2 := Int.mul_le_mul_of_nonpos_right h1 (show q ≤ 0 by omega)
        rw [hz] at h2
        omega
      · have h2 := Int.mul_le_mul_of_nonpos_right d (show q ≤ 0 by omega)
        rw [hz] at h2
        omega
    omega
  · obtain ⟨a, b⟩ := Dg.fmod_pos' p c
    have p0 : 0 ≤ p := by rcases s with s | s <;> omega
    have : 0 ≤ z := by
      rcases Int.lt_or_le (p.fdiv q) 0 with d | d
      · have h1 : p.fdiv q ≤ -1 := by omega
        have h2 := Int.mul_le_mul_of_nonneg_right h1 (show 0 ≤ q by omega)
        rw [hz] at h2
        omega
      · have h2 := Int.mul_nonneg d (show 0 ≤ q by omega)
        rw [hz] at h2
        omega
    omega
theorem unlike_div {p q : Int} (h : q ≠ 0) (hp : p ≠ 0) (s : ¬ Sg p q) : p.fdiv q ≤ -1 ∧ (p.fdiv q).natAbs * q.natAbs = p.natAbs + (p.fmod q).natAbs := by
  have e := fdm p q
  have hm := Int.natAbs_mul (p.fdiv q) q
  rw [← hm]
  generalize hz : p.fdiv q * q = z at *
  unfold Sg at s
  rcases Int.lt_or_gt_of_ne h with c | c
  · obtain ⟨a, b⟩ := Dg.fmod_neg' p c
    have p0 : 0 < p := by omega
    refine ⟨?_, by omega⟩
    rcases Int.lt_or_le (p.fdiv q) 0 with d | d
    · omega
    · have h2 := Int.mul_le_mul_of_nonpos_right d (show q ≤ 0 by omega)
      rw [hz] at h2
      omega
  · obtain ⟨a, b⟩ := Dg.fmod_pos' p c
    have p0 : p < 0 := by omega
    refine ⟨?_, by omega⟩
    rcases Int.lt_or_le (p.fdiv q) 0 with d | d
    · omega
    · have h2 := Int.mul_nonneg d (show 0 ≤ q by omega)
      rw [hz] at h2
      omega
/-- the numbers of both rows by the first two -/
def Cf (v0 v1 p q a b c d : Int) : Prop :=
  (a = 1 ∧ b = 0 ∧ c = 0 ∧ d = 1 ∧ p = v0 ∧ q = v1) ∨
  (a = 0 ∧ b = 1 ∧ c = 1 ∧ 1 ≤ d ∧ p = v1 ∧ Sg p q ∧ q.natAbs < p.natAbs ∧ d.natAbs * v1.natAbs = v0.natAbs + q.natAbs) ∨
  (Sg p q ∧ c.natAbs * p.natAbs + a.natAbs * q.natAbs ≤ v1.natAbs ∧ d.natAbs * p.natAbs + b.natAbs * q.natAbs ≤ v0.natAbs ∧ a.natAbs ≤ v1.natAbs ∧ b.natAbs ≤ v0.natAbs + 1)
theorem le_of_mul_pos {x y z : Nat} (h : x * y ≤ z) (hy : 0 < y) : x ≤ z := Nat.le_trans (Nat.le_mul_of_pos_right x hy) h
theorem Cf.bd {v0 v1 p q a b c d : Int} (h0 : v0 ≠ 0) (h1 : v1 ≠ 0) (hp : p ≠ 0) (h : Cf v0 v1 p q a b c d) : a.natAbs ≤ v1.natAbs ∧ b.natAbs ≤ v0.natAbs + 1 ∧ c.natAbs ≤ v1.natAbs ∧ d.natAbs ≤ v0.natAbs + 1 := by
  rcases h with ⟨rfl, rfl, rfl, rfl, _, _⟩ | ⟨rfl, rfl, rfl, d1, rfl, s, hq, e⟩ | ⟨s, e1, e2, ha, hb⟩
  · refine ⟨?_, ?_, ?_, ?_⟩ <;> omega
  · refine ⟨by omega, by omega, by omega, ?_⟩
    obtain ⟨t, ht⟩ : ∃ t, d.natAbs = t + 1 := ⟨d.natAbs - 1, by omega⟩
    rw [ht, Nat.add_mul] at e
    have h3 : t * p.natAbs ≤ v0.natAbs := by omega
    have := le_of_mul_pos h3 (by omega)
    omega
  · refine ⟨ha, hb, ?_, ?_⟩
    · exact le_of_mul_pos (Nat.le_trans (Nat.le_add_right _ _) e1) (by omega)
    · have := le_of_mul_pos (Nat.le_trans (Nat.le_add_right _ _) e2) (by omega)
      omega
theorem two_step (A M C Q E : Nat) : (A + M * C) * Q + C * E = C * (M * Q + E) + A * Q := by
  rw [Nat.add_mul, Nat.mul_add, Nat.mul_comm M C, Nat.mul_assoc]
  omega
theorem Cf.step {v0 v1 p q a b c d : Int} (h0 : v0 ≠ 0) (h1 : v1 ≠ 0) (hp : p ≠ 0) (hq : q ≠ 0) (h : Cf v0 v1 p q a b c d) : Cf v0 v1 q (p.fmod q) c d (a - p.fdiv q * c) (b - p.fdiv q * d) := by
  have bd := h.bd h0 h1 hp
  have sm := sg_mod p hq
  have lt := Dg.fmod_abs p hq
  rcases h with ⟨rfl, rfl, rfl, rfl, rfl, rfl⟩ | ⟨rfl, rfl, rfl, d1, rfl, s, hl, e⟩ | ⟨s, e1, e2, ha, hb⟩
  · by_cases s : Sg p q
    · have e := same_div hq s
      refine .inr (.inr ⟨sm, ?_, ?_, ?_, ?_⟩)
      · simp
      · simp only [Int.mul_one, Int.zero_sub, Int.natAbs_neg]
        show _ + 1 * _ ≤ _
        omega
      · simp
      · simp
    · obtain ⟨m1, e⟩ := unlike_div hq hp s
      refine .inr (.inl ⟨rfl, rfl, by simp, by omega, rfl, sm, lt, ?_⟩)
      rw [show (0 - p.fdiv q * 1 : Int).natAbs = (p.fdiv q).natAbs by omega]
      exact e
  · have e' := same_div hq s
    refine .inr (.inr ⟨sm, ?_, ?_, bd.2.2.1, bd.2.2.2⟩)
    · rw [show (0 - p.fdiv q * 1 : Int).natAbs = (p.fdiv q).natAbs by omega]
      show _ + 1 * _ ≤ _
      omega
    · -- m d - 1 times q and d times the rest
      have m1 : 1 ≤ p.fdiv q := by
        have h3 : 0 < (p.fdiv q).natAbs := by
          apply Nat.pos_of_ne_zero
          intro z
          rw [z, Nat.zero_mul] at e'
          omega
        rcases Int.lt_or_le (p.fdiv q) 0 with n | n
        · exfalso
          have e2 := fdm p q
          unfold Sg at s
          rcases Int.lt_or_gt_of_ne hq with c | c
          · have h4 := Int.mul_le_mul_of_nonpos_right (show p.fdiv q ≤ -1 by omega) (show q ≤ 0 by omega)
            have := Dg.fmod_neg' p c
            omega
          · have h4 := Int.mul_le_mul_of_nonneg_right (show p.fdiv q ≤ -1 by omega) (show 0 ≤ q by omega)
            have := Dg.fmod_pos' p c
            omega
        · omega
      obtain ⟨m, hm⟩ : ∃ m : Nat, p.fdiv q = (m : Nat) := ⟨(p.fdiv q).toNat, by omega⟩
      obtain ⟨D, hD⟩ : ∃ D : Nat, d = (D : Nat) := ⟨d.toNat, by omega⟩
      rw [hm] at e' ⊢
      subst hD
      simp only [Int.natAbs_natCast] at e e'
      have hx : (1 - (m : Int) * (D : Int)).natAbs + 1 = m * D := by
        have h3 : 1 ≤ m * D := Nat.mul_pos (by omega) (by omega)
        rw [← Int.natCast_mul]
        omega
      have key : (m * D) * q.natAbs + D * (p.fmod q).natAbs = D * p.natAbs := by
        rw [e', Nat.mul_add, Nat.mul_comm m D, Nat.mul_assoc]
      rw [← hx, Nat.add_mul] at key
      simp only [Int.natAbs_natCast]
      omega
  · have e' := same_div hq s
    have t1 : (a - p.fdiv q * c).natAbs ≤ a.natAbs + (p.fdiv q).natAbs * c.natAbs := by
      have := Int.natAbs_mul (p.fdiv q) c
      omega
    have t2 : (b - p.fdiv q * d).natAbs ≤ b.natAbs + (p.fdiv q).natAbs * d.natAbs := by
      have := Int.natAbs_mul (p.fdiv q) d
      omega
    refine .inr (.inr ⟨sm, ?_, ?_, bd.2.2.1, bd.2.2.2⟩)
    · have h3 := Nat.mul_le_mul_right q.natAbs t1
      have h4 := two_step a.natAbs (p.fdiv q).natAbs c.natAbs q.natAbs (p.fmod q).natAbs
      rw [← e'] at h4
      omega
    · have h3 := Nat.mul_le_mul_right q.natAbs t2
      have h4 := two_step b.natAbs (p.fdiv q).natAbs d.natAbs q.natAbs (p.fmod q).natAbs
      rw [← e'] at h4
      omega
/-- both rows at a turn -/
structure Ew (w at_ : Nat) (o0 r0 : List Int) (n : Nat) (o r : List Int) : Prop where
  lo : o.length = w
  lr : r.length = w
  zo : ∀ k, k < at_ → St.vec o k = 0
  zr : ∀ k, k < at_ → St.vec r k = 0
  no : St.vec o at_ ≠ 0
  hn : n = (St.vec r at_).natAbs
  co : ∃ a b c d : Int, (∀ k, St.vec o k = a * St.vec o0 k + b * St.vec r0 k) ∧ (∀ k, St.vec r k = c * St.vec o0 k + d * St.vec r0 k) ∧ Cf (St.vec o0 at_) (St.vec r0 at_) (St.vec o at_) (St.vec r at_) a b c d
theorem Ew.step {w at_ n : Nat} {o0 r0 o r : List Int} (n0 : St.vec o0 at_ ≠ 0) (n1 : St.vec r0 at_ ≠ 0) (h : Ew w at_ o0 r0 n o r) (hr : St.vec r at_ ≠ 0) : ∃ n', n' < n ∧ Ew w at_ o0 r0 n' r (les o r ((St.vec o at_).fdiv (St.vec r at_))) := by
  have hl : o.length = r.length := h.lo.trans h.lr.symm
  have hv := fun k => les_vec (o := o) (r := r) (q := (St.vec o at_).fdiv (St.vec r at_)) hl k
  have hm : St.vec (les o r ((St.vec o at_).fdiv (St.vec r at_))) at_ = (St.vec o at_).fmod (St.vec r at_) := by
    rw [hv, fdm]
  have hlt := Dg.fmod_abs (St.vec o at_) hr
  have hn := h.hn
  obtain ⟨a, b, c, d, e1, e2, C⟩ := h.co
  refine ⟨((St.vec o at_).fmod (St.vec r at_)).natAbs, by omega, h.lr, by rw [les_len hl]; exact h.lr, h.zr, fun k hk => by rw [hv, h.zo k hk, h.zr k hk]; simp, hr, by rw [hm], c, d, a - (St.vec o at_).fdiv (St.vec r at_) * c, b - (St.vec o at_).fdiv (St.vec r at_) * d, e2, fun k => ?_, ?_⟩
  · rw [hv, e1 k, e2 k]
    generalize (St.vec o at_).fdiv (St.vec r at_) = u
    grind
  · rw [hm]
    exact C.step n0 n1 h.no hr
theorem Ew.bd {w at_ n B R : Nat} {o0 r0 o r : List Int} (n0 : St.vec o0 at_ ≠ 0) (n1 : St.vec r0 at_ ≠ 0) (h : Ew w at_ o0 r0 n o r) (hB : ∀ k, (St.vec o0 k).natAbs < 2 ^ B) (hR : ∀ k, (St.vec r0 k).natAbs < 2 ^ R) : (∀ k, (St.vec o k).natAbs < 2 ^ (B + R + 1)) ∧ ∀ k, (St.vec r k).natAbs < 2 ^ (B + R + 1) := by
  obtain ⟨a, b, c, d, e1, e2, C⟩ := h.co
  obtain ⟨b1, b2, b3, b4⟩ := C.bd n0 n1 h.no
  have key : ∀ (a b x y : Int), a.natAbs ≤ (St.vec r0 at_).natAbs → b.natAbs ≤ (St.vec o0 at_).natAbs + 1 → x.natAbs < 2 ^ B → y.natAbs < 2 ^ R → (a * x + b * y).natAbs < 2 ^ (B + R + 1) := fun a b x y ha hb hx hy => by
    have h1 := hB at_
    have h2 := hR at_
    have m1 : a.natAbs * x.natAbs < 2 ^ R * 2 ^ B := Nat.mul_lt_mul_of_lt_of_lt (Nat.lt_of_le_of_lt ha h2) hx
    have m2 : b.natAbs * y.natAbs < 2 ^ B * 2 ^ R := Nat.lt_of_le_of_lt (Nat.mul_le_mul_right _ (show b.natAbs ≤ 2 ^ B by omega)) (Nat.mul_lt_mul_of_pos_left hy (Nat.pow_pos (by decide)))
    rw [← Nat.pow_add] at m1 m2
    rw [Nat.add_comm R B] at m1
    rw [Nat.pow_succ]
    have := Int.natAbs_mul a x
    have := Int.natAbs_mul b y
    omega
  exact ⟨fun k => by rw [e1]; exact key _ _ _ _ b1 b2 (hB k) (hR k), fun k => by rw [e2]; exact key _ _ _ _ b3 b4 (hB k) (hR k)⟩
theorem mulOk_p {i j : Int} {N : Nat} (h : (i * j).natAbs < 2 ^ N) (hN : N < 100000000) : mulOk i j := by
  by_cases c1 : i = 0
  · exact .inl (by rw [c1]; decide)
  by_cases c2 : j = 0
  · exact .inr (.inl (by rw [c2]; decide))
  refine .inr (.inr ?_)
  have i1 : i.natAbs ≠ 0 := by omega
  have j1 : j.natAbs ≠ 0 := by omega
  have a1 := Nat.log2_self_le i1
  have a2 := Nat.log2_self_le j1
  have a3 := Nat.mul_le_mul a1 a2
  rw [← Nat.pow_add, ← Int.natAbs_mul] at a3
  have : 2 ^ (i.natAbs.log2 + j.natAbs.log2) < 2 ^ N := Nat.lt_of_le_of_lt a3 h
  have := (Nat.pow_lt_pow_iff_right (by decide : 1 < 2)).mp this
  omega
end K14
namespace K14.L
open PySem Pu L2
theorem rows_ok {X : Exn → En → Prop} {p : Ct} {mo : Int} (hp : PenL p) (m1 : 1 ≤ mo) (m8 : mo ≤ 8) : Wp X (m__law_rows [.io p, .v (.int mo)]) fun rv z => ∃ (w : Nat) (rs : List (List Int)) (c : Ct) (t : List Sl) (b : Nat), rv = .v (.tuple [.int w, TT rs]) ∧ w ≤ 14 ∧ rs.length ≤ 14 ∧ Rw w b rs ∧ (b = 3 ∨ b = 30 ∧ rs.length ≤ 5) ∧ z = .io c :: t ∧ PenL c := by
  refine po_fnK fun Y K hY hK _ => ?_
  unfold b__law_rows
  refine po_step fun K1 h1 _ _ _ => ?_
  simp [-po_comp]
  refine po_mono (draw_ok hp (by omega) (by omega)) ?_
  rintro _ _ ⟨way, c, t, rfl, y0, y1, rfl, hp⟩
  obtain ⟨a, m, n, ea, em, en, a0, m0, am, n0, n1, w7, w6⟩ := way_tab y0 (by omega)
  simp [-po_comp]
  refine h1 _ ?_
  refine po_step fun K2 h2 _ _ _ => ?_
  simp [-po_comp, ea, em]
  refine po_mono (draw_ok hp (by omega) (by omega)) ?_
  rintro _ _ ⟨v, c, t, rfl, v0, v1, rfl, hp⟩
  simp [-po_comp]
  refine h2 _ ?_
  obtain ⟨w, hw⟩ := Int.eq_ofNat_of_zero_le (show 0 ≤ a + v by omega)
  rw [hw]
  have hw14 : w ≤ 14 := by omega
  have hw7 : way = 7 → 1 ≤ w := fun z => by have := w7 z; omega
  refine po_step fun K3 h3 _ _ _ => ?_
  simp [-po_comp]
  refine h3 _ ?_
  refine po_step fun K4 h4 _ _ _ => ?_
  simp [-po_comp, en]
  refine po_mono (draw_ok hp (by omega) (by omega)) ?_
  rintro _ _ ⟨q, c, t, rfl, q0, q1, rfl, hp⟩
  obtain ⟨q, rfl⟩ := Int.eq_ofNat_of_zero_le q0
  simp [-po_comp]
  refine ⟨by omega, ?_⟩
  have hq : q ≤ 14 := by omega
  refine po_rngK (fun i r => ∃ (rs : List (List Int)) (c : Ct) (s4 s5 s6 s7 s8 : Sl), r = [.io c, .v (.int mo), .v (.int way), .v (.int w), .o (.l (rs.map fun r => T r)), s4, s5, s6, s7, s8, .unk, .unk] ∧ PenL c ∧ s4.isIo = false ∧ s5.isIo = false ∧ s6.isIo = false ∧ s7.isIo = false ∧ s8.isIo = false ∧ rs.length = i ∧ Rw w (bits way) rs) q _ ⟨[], c, .unk, .unk, .unk, .unk, .unk, rfl, hp, rfl, rfl, rfl, rfl, rfl, rfl, fun i r hr => by simp [-po_comp] at hr⟩ ?_ ?_
  · rintro i r hi ⟨rs, c, s4, s5, s6, s7, s8, rfl, hp, q4, q5, q6, q7, q8, hl, R⟩
    refine ⟨[.io c, .v (.int mo), .v (.int way), .v (.int w), .o (.l (rs.map fun r => T r)), .v (.int i), s5, s6, s7, s8, .unk, .unk], by simp [-po_comp, q4], fun K5 h5 _ _ _ => ?_⟩
    have hpw : ∀ {x : Nat}, x < 2 ^ bits way → x < 2 ^ (bits way + i) := fun {x} h => Nat.lt_of_lt_of_le h (Nat.pow_le_pow_right (by decide) (by omega))
    have hsz : rs.length < 16777216 := by omega
    refine po_step fun K6 h6 _ _ _ => ?_
    -- behind the drawn row
    have aft : ∀ (c : Ct) (r : List Int), PenL c → r.length = w → (∀ x ∈ r, x.natAbs < 2 ^ bits way) → K6 .nx [.io c, .v (.int mo), .v (.int way), .v (.int w), .o (.l (rs.map fun r => T r)), .v (.int i), .v (T r), s6, s7, s8, .unk, .unk] := by
      intro c r hp hr hrx
      refine h6 _ ?_
      refine po_step fun K7 h7 _ _ _ => ?_
      simp [-po_comp]
      refine po_mono (draw_ok hp (by decide) (by decide)) ?_
      rintro _ _ ⟨v, c, t, rfl, v0, v1, rfl, hp⟩
      simp [-po_comp, q6]
      refine h7 _ ?_
      refine po_step fun K8 h8 _ _ _ => ?_
      have last : ∀ (c : Ct) (r : List Int) (s7 s8 : Sl), PenL c → r.length = w → (∀ x ∈ r, x.natAbs < 2 ^ (bits way + i)) → s7.isIo = false → s8.isIo = false → Wp Y (sAppend 4 (getS 6) [.io c, .v (.int mo), .v (.int way), .v (.int w), .o (.l (rs.map fun r => T r)), .v (.int i), .v (T r), .v (.int v), s7, s8, .unk, .unk]) K5 := by
        intro c r s7 s8 hp hr hrx q7 q8
        simp [-po_comp, hsz]
        refine h5 _ ⟨rs ++ [r], c, .v (.int i), .v (T r), .v (.int v), s7, s8, by simp, hp, rfl, rfl, rfl, q7, q8, by simp [-po_comp, hl], ?_⟩
        exact R.app hr (by rw [hl]; exact hrx)
      have mid : ∀ (r : List Int), r.length = w → (∀ x ∈ r, x.natAbs < 2 ^ bits way) → K8 .nx [.io c, .v (.int mo), .v (.int way), .v (.int w), .o (.l (rs.map fun r => T r)), .v (.int i), .v (T r), .v (.int v), s7, s8, .unk, .unk] := by
        intro r hr hrx
        refine h8 _ ?_
        refine po_step fun K9 h9 _ _ _ => ?_
        have go : K9 .nx [.io c, .v (.int mo), .v (.int way), .v (.int w), .o (.l (rs.map fun r => T r)), .v (.int i), .v (T r), .v (.int v), s7, s8, .unk, .unk] := h9 _ (last c r s7 s8 hp hr (fun x hx => hpw (hrx x hx)) q7 q8)
        by_cases hv : v = 1
        · by_cases hrs : rs = []
          · have e0 : neD (.list []) (.list []) = some (.bool false) := rfl
            rw [hv, hrs] at go ⊢
            simp [-po_comp, e0] at go ⊢
            exact go
          · have hrl : 0 < rs.length := List.length_pos_iff.mpr hrs
            simp [-po_comp, hv, ne_nil, hrs]
            refine po_step fun KA hA _ _ _ => ?_
            simp [-po_comp]
            refine po_mono (draw_ok hp (by omega) (by omega)) ?_
            rintro _ _ ⟨u, c, t, rfl, u0, u1, rfl, hp⟩
            obtain ⟨u, rfl⟩ := Int.eq_ofNat_of_zero_le u0
            have hu : u < rs.length := by omega
            simp [-po_comp, atTT hu, q7]
            refine hA _ ?_
            refine po_step fun KB hB _ _ _ => ?_
            simp [-po_comp]
            refine po_mono (draw_ok hp (by decide) (by decide)) ?_
            rintro _ _ ⟨a, c, t, rfl, a0, a1, rfl, hp⟩
            obtain ⟨d, e1, y, rfl, y0, y1⟩ := atI_all (P := fun d : D => ∃ y : Int, d = .int y ∧ -1 ≤ y ∧ y ≤ 2) (xs := [.int 1, .int (-1), .int 2, .int 0]) (n := a) a0 (by simp [-po_comp]; omega) (by
              intro d hd
              simp only [List.mem_cons, List.not_mem_nil, or_false] at hd
              rcases hd with rfl | rfl | rfl | rfl <;> exact ⟨_, rfl, by decide, by decide⟩)
            simp [-po_comp, q8, e1]
            refine hB _ ?_
            have hro := R _ _ (row_at hu)
            simp [-po_comp]
            refine po_LC1 (f := fun x : Int => .int x) (g := fun x : Int => PyData.int (y * x)) (row rs u) (by simp [-po_comp]) (by simp [-po_comp, noOwn_cons]) (by omega) ?_ ?_
            · intro x hx
              simp [-po_comp]
              exact mulOk_l ⟨by omega, by omega⟩
            have e1 : (row rs u).map (fun x : Int => PyData.int (y * x)) = ((row rs u).map fun x => y * x).map .int := by
              rw [List.map_map]
              rfl
            rw [e1]
            generalize hrw : (row rs u).map (fun x => y * x) = r2
            simp [-po_comp]
            refine h9 _ ?_
            have z := last c r2 (.v (T (row rs u))) (.v (.int y)) hp (by rw [← hrw, List.length_map]; exact hro.1) (by
              rw [← hrw]
              intro z hz
              obtain ⟨x, hx, rfl⟩ := List.mem_map.mp hz
              have h1 := hro.2 x hx
              have h2 : (y * x).natAbs ≤ 2 * x.natAbs := by
                rw [Int.natAbs_mul]
                exact Nat.mul_le_mul_right _ (by omega)
              have h3 : 2 ^ (bits way + u + 1) ≤ 2 ^ (bits way + i) := Nat.pow_le_pow_right (by decide) (by omega)
              rw [Nat.pow_succ] at h3
              omega) rfl rfl
            rw [hv] at z
            exact z
        · simp [-po_comp, hv]
          exact go
      by_cases hv0 : v = 0
      · simp [-po_comp, hv0]
        refine ⟨by omega, ?_⟩
        have z := mid (List.replicate w 0) (by simp [-po_comp]) (by
          intro x hx
          rw [(List.mem_replicate.mp hx).2]
          exact Nat.pow_pos (by decide))
        have ez : T (List.replicate w 0) = .tuple (List.replicate w (.int 0)) := by simp [-po_comp, T]
        rw [ez, hv0] at z
        exact z
      · simp [-po_comp, hv0]
        exact mid r hr hrx
    by_cases hway : way = 7
    · simp [-po_comp, hway]
      refine po_mono (slanted_ok hp (hw7 hway) hw14) ?_
      rintro _ _ ⟨r, c, t, rfl, hr, hrx, rfl, hp⟩
      simp [-po_comp, q5]
      have := aft c r hp hr (fun x hx => by rw [bits, if_neg (by omega)]; exact hrx x hx)
      rw [hway] at this
      exact this
    · simp [-po_comp, hway, po_comp]
      refine ⟨by omega, ?_⟩
      rw [rng_map]
      refine po_compC (fun acc r => ∃ (xs : List Int) (c : Ct) (s : Sl), acc = xs.map .int ∧ (∀ x ∈ xs, x.natAbs < 2 ^ bits way) ∧ r = [.io c, .v (.int mo), .v (.int way), .v (.int w), .o (.l (rs.map fun r => T r)), .v (.int i), s5, s6, s7, s8, s, .unk] ∧ PenL c) (List.range w) _ ⟨[], c, _, rfl, by simp, rfl, hp⟩ (by simp [-po_comp]; omega) ?_ ?_
      · rintro j acc r hj ⟨xs, c, s, e, hx, rfl, hp⟩
        refine ⟨[.io c, .v (.int mo), .v (.int way), .v (.int w), .o (.l (rs.map fun r => T r)), .v (.int i), s5, s6, s7, s8, .v (.int j), .unk], by simp, fun KC hC => ?_⟩
        simp [-po_comp]
        refine po_mono (number_ok hp y0) ?_
        rintro _ _ ⟨k, c, t, rfl, hk, rfl, hp⟩
        simp [-po_comp]
        refine hC _ _ ⟨xs ++ [k], c, .v (.int j), by simp [-po_comp, e], ?_, rfl, hp⟩
        intro x hm
        rcases List.mem_append.mp hm with hm | hm
        · exact hx x hm
        · rw [List.mem_singleton.mp hm]
          exact hk
      rintro acc r hal ⟨xs, c, s, rfl, hx, rfl, hp⟩
      simp [-po_comp] at hal
      simp [-po_comp, q5]
      exact aft c xs hp hal hx
  · rintro r ⟨rs, c, s4, s5, s6, s7, s8, rfl, hp, -, -, -, -, -, hl, R⟩
    refine h4 _ ?_
    simp [-po_comp]
    refine hK _ _ _ rfl ⟨w, rs, c, _, bits way, rfl, hw14, by omega, R, ?_, rfl, hp⟩
    by_cases c6 : way < 6
    · exact .inr ⟨if_pos c6, by have := w6 c6; omega⟩
    · exact .inl (if_neg c6)
end K14.L
namespace K14
open PySem Pu L2
open K14.M (T TT fo)
/-! ### how the numbers grow, by how many feet stand ahead -/
def rho (c : Nat) (L : List Nat) : Nat → Nat
  | 0 => c
  | j + 1 => rho c L j + L.getD j 0 + 1
def nx (c : Nat) (L : List Nat) : List Nat := (List.range (L.length + 1)).map fun j => rho c L (min (j + 1) L.length)
theorem rho_mono (c : Nat) (L : List Nat) {i j : Nat} (h : i ≤ j) : rho c L i ≤ rho c L j := by
  induction j with
  | zero => rw [show i = 0 by omega]; exact Nat.le_refl _
  | succ j ih =>
    by_cases e : i = j + 1
    · rw [e]; exact Nat.le_refl _
    · have := ih (by omega)
      show _ ≤ rho c L j + L.getD j 0 + 1
      omega
theorem rho_ge (c : Nat) (L : List Nat) (j : Nat) : L.getD j 0 ≤ rho c L (j + 1) := by
  show _ ≤ rho c L j + L.getD j 0 + 1
  omega
theorem nx_len (c : Nat) (L : List Nat) : (nx c L).length = L.length + 1 := by simp [-po_comp, nx]
theorem nx_at (c : Nat) (L : List Nat) {j : Nat} (h : j ≤ L.length) : (nx c L).getD j 0 = rho c L (min (j + 1) L.length) := by
  unfold nx
  rw [List.getD, List.getElem?_map, List.getElem?_range (by omega)]
  rfl
def cnt (bo : Nat → Option (List Int)) : Nat → Nat
  | 0 => 0
  | i + 1 => cnt bo i + if (bo i).isSome then 1 else 0
theorem cnt_mono (bo : Nat → Option (List Int)) {i j : Nat} (h : i ≤ j) : cnt bo i ≤ cnt bo j := by
  induction j with
  | zero => rw [show i = 0 by omega]; exact Nat.le_refl _
  | succ j ih =>
    by_cases e : i = j + 1
    · rw [e]; exact Nat.le_refl _
    · have := ih (by omega)
      show _ ≤ cnt bo j + _
      omega
theorem cnt_some {bo : Nat → Option (List Int)} {i : Nat} {r : List Int} (h : bo i = some r) : cnt bo (i + 1) = cnt bo i + 1 := by
  show cnt bo i + (if (bo i).isSome then 1 else 0) = _
  rw [h]
  rfl
theorem cnt_cong {bo bo' : Nat → Option (List Int)} (h : ∀ i, (bo' i).isSome = (bo i).isSome) : ∀ i, cnt bo' i = cnt bo i
  | 0 => rfl
  | i + 1 => by
    show cnt bo' i + _ = cnt bo i + _
    rw [cnt_cong h i, h i]
theorem cnt_upd {bo : Nat → Option (List Int)} {p : Nat} {r : List Int} (h : bo p = none) : ∀ i, cnt (updB bo p r) i = cnt bo i + if p < i then 1 else 0
  | 0 => rfl
  | i + 1 => by
    show cnt (updB bo p r) i + (if (updB bo p r i).isSome then 1 else 0) = cnt bo i + (if (bo i).isSome then 1 else 0) + _
    rw [cnt_upd h i]
    unfold updB
    by_cases e : i = p
    · rw [if_pos e, e, h, if_neg (Nat.lt_irrefl p), if_pos (Nat.lt_succ_self p)]
      rfl
    · rw [if_neg e]
      by_cases l : p < i
      · rw [if_pos l, if_pos (show p < i + 1 by omega)]
        omega
      · rw [if_neg l, if_neg (show ¬ p < i + 1 by omega)]
        omega
/-- rows by feet, with bounds -/
structure Bn (w : Nat) (L : List Nat) (bo : Nat → Option (List Int)) : Prop where
  ok : ∀ i r, bo i = some r → i < w ∧ r.length = w ∧ (∀ k, k < i → St.vec r k = 0) ∧ St.vec r i ≠ 0 ∧ ∀ k, (St.vec r k).natAbs < 2 ^ L.getD (cnt bo i) 0
  le : cnt bo w ≤ L.length
theorem Bn.z {w : Nat} {L : List Nat} {bo : Nat → Option (List Int)} (B : Bn w L bo) : ∀ j r, bo j = some r → (∀ k, k < j → St.vec r k = 0) ∧ St.vec r j ≠ 0 := fun j r h => ⟨(B.ok j r h).2.2.1, (B.ok j r h).2.2.2.1⟩
theorem Bn.ci {w : Nat} {L : List Nat} {bo : Nat → Option (List Int)} (B : Bn w L bo) {i : Nat} {r : List Int} (h : bo i = some r) : cnt bo i + 1 ≤ L.length := by
  have h1 := cnt_some h
  have h2 := cnt_mono bo (show i + 1 ≤ w from (B.ok i r h).1)
  have := B.le
  omega
/-- amid a row's being put in -/
structure Mi (w c : Nat) (L : List Nat) (bo : Nat → Option (List Int)) (at_ : Nat) (bo' : Nat → Option (List Int)) : Prop where
  su : ∀ i, (bo' i).isSome = (bo i).isSome
  ok : ∀ i r, bo' i = some r → i < w ∧ r.length = w ∧ (∀ k, k < i → St.vec r k = 0) ∧ St.vec r i ≠ 0 ∧ ∀ k, (St.vec r k).natAbs < 2 ^ (if i < at_ then rho c L (cnt bo i + 1) else L.getD (cnt bo i) 0)
theorem lt_pw {x a b : Nat} (h : x < 2 ^ a) (e : a ≤ b) : x < 2 ^ b := Nat.lt_of_lt_of_le h (Nat.pow_le_pow_right (by decide) e)
section
variable {w c : Nat} {L : List Nat} {bo bo' : Nat → Option (List Int)} {at_ : Nat}
theorem Mi.start (B : Bn w L bo) : Mi w c L bo at_ bo := ⟨fun i => rfl, fun i r h => by
  obtain ⟨h1, h2, h3, h4, h5⟩ := B.ok i r h
  refine ⟨h1, h2, h3, h4, fun k => lt_pw (h5 k) ?_⟩
  split
  · exact rho_ge c L _
  · exact Nat.le_refl _⟩
theorem Mi.up (M : Mi w c L bo at_ bo') {b : Nat} (h : at_ ≤ b) : Mi w c L bo b bo' := ⟨M.su, fun i r hr => by
  obtain ⟨h1, h2, h3, h4, h5⟩ := M.ok i r hr
  refine ⟨h1, h2, h3, h4, fun k => lt_pw (h5 k) ?_⟩
  by_cases c1 : i < at_
  · rw [if_pos c1, if_pos (by omega)]
    exact Nat.le_refl _
  · rw [if_neg c1]
    split
    · exact rho_ge c L _
    · exact Nat.le_refl _⟩
/-- a foot's row exchanged -/
theorem Mi.put (M : Mi w c L bo at_ bo') {o p : List Int} (ho : bo' at_ = some o) (hl : p.length = w) (hz : ∀ k, k < at_ → St.vec p k = 0) (hn : St.vec p at_ ≠ 0) (hb : ∀ k, (St.vec p k).natAbs < 2 ^ rho c L (cnt bo at_ + 1)) {b : Nat} (h : at_ < b) : Mi w c L bo b (updB bo' at_ p) := by
  have M2 := M.up (b := b) (Nat.le_of_lt h)
  refine ⟨fun i => ?_, fun i r hr => ?_⟩
  · unfold updB
    by_cases e : i = at_
    · rw [if_pos e, e, ← M.su, ho]
      rfl
    · rw [if_neg e]
      exact M.su i
  · unfold updB at hr
    by_cases e : i = at_
    · rw [if_pos e] at hr
      cases hr
      rw [e, if_pos h]
      exact ⟨(M.ok at_ o ho).1, hl, hz, hn, hb⟩
    · rw [if_neg e] at hr
      exact M2.ok i r hr
theorem Mi.fin (B : Bn w L bo) (M : Mi w c L bo w bo') : Bn w (nx c L) bo' := by
  refine ⟨fun i r hr => ?_, ?_⟩
  · obtain ⟨h1, h2, h3, h4, h5⟩ := M.ok i r hr
    have hs : ∃ r0, bo i = some r0 := by
      have := M.su i
      rw [hr] at this
      exact Option.isSome_iff_exists.mp this.symm
    obtain ⟨r0, hr0⟩ := hs
    have hc := B.ci hr0
    rw [if_pos h1] at h5
    refine ⟨h1, h2, h3, h4, fun k => ?_⟩
    rw [cnt_cong M.su, nx_at c L (by omega), Nat.min_eq_left hc]
    exact h5 k
  · rw [cnt_cong M.su, nx_len]
    have := B.le
    omega
/-- a row put where none was -/
theorem Mi.new (B : Bn w L bo) (M : Mi w c L bo at_ bo') (hn : bo' at_ = none) {p : List Int} (hi : at_ < w) (hl : p.length = w) (hz : ∀ k, k < at_ → St.vec p k = 0) (hp : St.vec p at_ ≠ 0) (hb : ∀ k, (St.vec p k).natAbs < 2 ^ rho c L (cnt bo at_)) : Bn w (nx c L) (updB bo' at_ p) := by
  have hle := B.le
  refine ⟨fun i r hr => ?_, ?_⟩
  · rw [cnt_upd hn, cnt_cong M.su]
    unfold updB at hr
    by_cases e : i = at_
    · rw [if_pos e] at hr
      cases hr
      have hc := cnt_mono bo (show at_ ≤ w by omega)
      rw [e, if_neg (Nat.lt_irrefl _), Nat.add_zero, nx_at c L (by omega)]
      exact ⟨hi, hl, hz, hp, fun k => lt_pw (hb k) (rho_mono c L (by omega))⟩
    · rw [if_neg e] at hr
      obtain ⟨h1, h2, h3, h4, h5⟩ := M.ok i r hr
      have hs : ∃ r0, bo i = some r0 := by
        have := M.su i
        rw [hr] at this
        exact Option.isSome_iff_exists.mp this.symm
      obtain ⟨r0, hr0⟩ := hs
      have hc := B.ci hr0
      refine ⟨h1, h2, h3, h4, fun k => lt_pw (h5 k) ?_⟩
      by_cases c1 : i < at_
      · rw [if_pos c1, if_neg (by omega), Nat.add_zero, nx_at c L (by omega)]
        exact rho_mono c L (by omega)
      · rw [if_neg c1, if_pos (by omega), nx_at c L (by omega)]
        exact Nat.le_trans (rho_ge c L _) (rho_mono c L (by omega))
  · rw [cnt_upd hn, cnt_cong M.su, nx_len, if_pos hi]
    omega
end
end K14
namespace K14
open PySem Pu L2
open K14.M (T TT fo)
theorem get_vec {r : List Int} {k : Nat} (h : k < r.length) : r[k]? = some (St.vec r k) := by
  unfold St.vec
  rw [List.getD, List.getElem?_eq_getElem h]
  rfl
theorem lfoot_ok {X : Exn → En → Prop} (r : List Int) : Wp X (m__law_foot [.v (T r)]) fun rv _ => rv = .v (.int (fo r : Nat)) := by
  refine po_fnK fun Y K hY hK _ => ?_
  unfold b__law_foot
  refine po_step fun K1 h1 _ _ _ => ?_
  simp [-po_comp]
  refine h1 _ ?_
  refine po_step fun K2 h2 _ _ _ => ?_
  refine po_while (fun n z => ∃ k : Nat, z = [.v (T r), .v (.int (k : Nat))] ∧ k ≤ fo r ∧ n = fo r - k) ?_ (fo r) _ ⟨0, rfl, Nat.zero_le _, rfl⟩
  rintro n z ⟨k, rfl, hk, rfl⟩
  have fle : fo r ≤ r.length := by
    rcases Nat.lt_or_ge r.length (fo r) with c | c
    · have := K14.M.fo_all r fun y hy => by
        obtain ⟨i, hi, rfl⟩ := List.getElem_of_mem hy
        have := K14.M.fo_z r i (by omega)
        unfold St.vec at this
        rw [List.getD, List.getElem?_eq_getElem hi] at this
        exact this
      omega
    · exact c
  by_cases c : k < r.length
  · have e := get_vec c
    have c1 : (k : Int) < (r.length : Int) := by omega
    simp [-po_comp, c1, e]
    by_cases c2 : St.vec r k = 0
    · have : k < fo r := by
        apply Classical.byContradiction
        intro hn
        have : k = fo r := by omega
        exact K14.M.fo_nz r (by omega) (this ▸ c2)
      simp [-po_comp, c2]
      exact ⟨fo r - (k + 1), by omega, k + 1, by simp, by omega, rfl⟩
    · have : k = fo r := by
        apply Classical.byContradiction
        intro hn
        exact c2 (K14.M.fo_z r k (by omega))
      simp [-po_comp, c2]
      refine h2 _ ?_
      simp [-po_comp]
      exact hK _ _ _ rfl (by rw [this])
  · have c1 : ¬ (k : Int) < (r.length : Int) := by omega
    simp [-po_comp, c1]
    refine h2 _ ?_
    simp [-po_comp]
    exact hK _ _ _ rfl (by rw [show k = fo r by omega])
theorem zip2 (o r : List Int) : zipOf [T o, T r] = some ((List.zip o r).map fun p => .tuple [.int p.1, .int p.2]) := by
  show some (zipD _ _) = _
  congr 1
  induction o generalizing r with
  | nil => rfl
  | cons x xs ih =>
    cases r with
    | nil => rfl
    | cons y ys =>
      show _ :: zipD (xs.map PyData.int) (ys.map PyData.int) = _
      rw [ih]
      rfl
theorem zip_les (o r : List Int) (q : Int) : (List.zip o r).map (fun p => p.1 - q * p.2) = les o r q := by
  unfold les
  rw [List.zip, List.map_zipWith]
theorem fo_gt {r : List Int} {k : Nat} (hk : k < r.length) (hz : ∀ i, i ≤ k → St.vec r i = 0) : k < fo r := by
  apply Classical.byContradiction
  intro hn
  exact K14.M.fo_nz r (by omega) (hz _ (by omega))
theorem fo_len (r : List Int) : fo r ≤ r.length := by
  rcases Nat.lt_or_ge r.length (fo r) with c | c
  · have := K14.M.fo_all r fun y hy => by
      obtain ⟨i, hi, rfl⟩ := List.getElem_of_mem hy
      have := K14.M.fo_z r i (by omega)
      unfold St.vec at this
      rw [List.getD, List.getElem?_eq_getElem hi] at this
      exact this
    omega
  · exact c
theorem put_in_ok {X : Exn → En → Prop} {w e0 n : Nat} {L : List Nat} {bo : Nat → Option (List Int)} {kvs : List (Key × D)} {r0 : List Int} (B : Bn w L bo) (Kq : Kv n kvs bo) (hn : n < 1000) (w1 : w ≤ 100) (hl0 : r0.length = w) (hb0 : ∀ k, (St.vec r0 k).natAbs < 2 ^ e0) (lim : rho e0 L L.length + 10 < 100000000) :
    Wp X (m__law_put_in [.io (.d kvs), .v (T r0)]) fun rv z => ∃ kvs' bo' t, z = .io (.d kvs') :: t ∧ Bn w (nx e0 L) bo' ∧ Kv (n + w) kvs' bo' ∧ ∀ x, SpB w bo' x ↔ SpR w bo r0 x := by
  have hle := B.le
  refine po_fnK fun Y K hY hK hN => ?_
  unfold b__law_put_in
  refine po_step fun K1 h1 _ _ _ => ?_
  simp [-po_comp]
  refine po_mono (lfoot_ok r0) ?_
  rintro _ _ rfl
  simp [-po_comp]
  refine h1 _ ?_
  refine po_while (fun ms z => ∃ (r : List Int) (bo' : Nat → Option (List Int)) (kvs' : List (Key × D)) (s3 s4 s5 s6 s7 : Sl), z = [.io (.d kvs'), .v (T r), .v (.int (fo r : Nat)), s3, s4, s5, s6, s7] ∧ ms = w - fo r ∧ r.length = w ∧ (∀ k, (St.vec r k).natAbs < 2 ^ rho e0 L (cnt bo (fo r))) ∧ Mi w e0 L bo (fo r) bo' ∧ Kv (n + fo r) kvs' bo' ∧ (∀ x, SpR w bo' r x ↔ SpR w bo r0 x) ∧ s3.isIo = false ∧ s4.isIo = false ∧ s5.isIo = false ∧ s6.own = none ∧ s7.own = none) ?_ (w - fo r0) _ ⟨r0, bo, kvs, _, _, _, _, _, rfl, rfl, hl0, fun k => lt_pw (hb0 k) (rho_mono e0 L (Nat.zero_le _)), Mi.start B, ?_, fun x => Iff.rfl, rfl, rfl, rfl, rfl, rfl⟩
  · rintro ms z ⟨r, bo', kvs', s3, s4, s5, s6, s7, rfl, rfl, hl, hb, M, K', sp, q3, q4, q5, q6, q7⟩
    have fl := fo_len r
    have kl := K'.len
    by_cases c : fo r < w
    · have c1 : (fo r : Int) < (r.length : Int) := by omega
      simp [-po_comp, c1]
      have hz0 := K14.M.fo_z r
      have hnz := K14.M.fo_nz r (by omega)
      have hat := K'.at_ (fo r)
      obtain ⟨at_, hat_⟩ : ∃ at_, at_ = fo r := ⟨_, rfl⟩
      rw [← hat_] at hat hz0 hnz hb M K' c kl ⊢
      have cw := cnt_mono bo (show at_ ≤ w by omega)
      refine po_step fun K2 h2 rt2 _ _ => ?_
      cases ha : bo' at_ with
      | none =>
        rw [ha] at hat
        have hat : vK kvs' (.inl (at_ : Int)) = none := hat
        simp [-po_comp, hat, q3]
        refine h2 _ ?_
        refine po_step fun K3 h3 rt3 _ _ => ?_
        have e1 : isD PyData.none PyData.none = some (.bool true) := rfl
        have kl2 : kvs'.length < 16777216 := by omega
        simp [-po_comp, e1]
        refine po_step fun K5 h5 rt5 _ _ => ?_
        simp [-po_comp, kl2]
        refine h5 _ ?_
        simp [-po_comp]
        refine rt3 _ _ ?_
        refine hK _ _ _ rfl ⟨_, updB bo' at_ r, _, rfl, M.new B ha c hl hz0 hnz hb, ?_, fun x => ?_⟩
        · have := K'.put at_ r
          exact ⟨by have := this.len; omega, this.at_⟩
        · rw [← sp, SpB.new c ha]
      | some o =>
        rw [ha] at hat
        have hat : vK kvs' (.inl (at_ : Int)) = some (T o) := hat
        obtain ⟨_, lo, zo, no, oB⟩ := M.ok at_ o ha
        rw [if_neg (Nat.lt_irrefl _)] at oB
        have ho : ∃ o0, bo at_ = some o0 := by
          have := M.su at_
          rw [ha] at this
          exact Option.isSome_iff_exists.mp this.symm
        have hc1 : cnt bo (at_ + 1) = cnt bo at_ + 1 := cnt_some ho.choose_spec
        have hc2 := B.ci ho.choose_spec
        have hrl : rho e0 L (cnt bo at_ + 1) ≤ rho e0 L L.length := rho_mono e0 L hc2
        have hrs : rho e0 L (cnt bo at_ + 1) = L.getD (cnt bo at_) 0 + rho e0 L (cnt bo at_) + 1 := by
          show rho e0 L (cnt bo at_) + L.getD (cnt bo at_) 0 + 1 = _
          omega
        simp [-po_comp, hat, q3]
        refine h2 _ ?_
        refine po_step fun K3 h3 rt3 _ _ => ?_
        have e1 : isD (T o) PyData.none = some (.bool false) := rfl
        simp [-po_comp, e1]
        refine h3 _ ?_
        refine po_step fun K4 h4 rt4 _ _ => ?_
        have E0 : Ew w at_ o r (St.vec r at_).natAbs o r := ⟨lo, hl, zo, hz0, no, rfl, 1, 0, 0, 1, fun k => by omega, fun k => by omega, .inl ⟨rfl, rfl, rfl, rfl, rfl, rfl⟩⟩
        have sp0 : ∀ x, SpR w (updB bo' at_ o) r x ↔ SpR w bo r0 x := fun x => by rw [upd_self ha]; exact sp x
        refine po_while (fun ms z => ∃ (p q : List Int) (s4 s5 s6 s7 : Sl), z = [.io (.d kvs'), .v (T q), .v (.int (at_ : Nat)), .v (T p), s4, s5, s6, s7] ∧ Ew w at_ o r ms p q ∧ (∀ x, SpR w (updB bo' at_ p) q x ↔ SpR w bo r0 x) ∧ s4.isIo = false ∧ s5.isIo = false ∧ s6.own = none ∧ s7.own = none) ?_ _ _ ⟨o, r, _, _, _, _, rfl, E0, sp0, q4, q5, q6, q7⟩
        rintro ms z ⟨p, q, s4, s5, s6, s7, rfl, Eq, spq, q4, q5, q6, q7⟩
        have g1 := get_vec (r := q) (k := at_) (by rw [Eq.lr]; exact c)
        have g2 := get_vec (r := p) (k := at_) (by rw [Eq.lo]; exact c)
        by_cases cq : St.vec q at_ = 0
        · simp [-po_comp, g1, cq]
          refine h4 _ ?_
          refine po_step fun K5 h5 rt5 _ _ => ?_
          have kl2 : kvs'.length < 16777216 := by omega
          simp [-po_comp, kl2]
          refine h5 _ ?_
          simp [-po_comp]
          refine po_mono (lfoot_ok q) ?_
          rintro _ _ rfl
          simp [-po_comp]
          have zq : ∀ i, i ≤ at_ → St.vec q i = 0 := fun i hi => by
            rcases Nat.lt_or_ge i at_ with z | z
            · exact Eq.zr i z
            · rw [show i = at_ by omega]
              exact cq
          have fq := fo_gt (r := q) (by rw [Eq.lr]; exact c) zq
          have fq0 : ¬ fo q = 0 := by omega
          obtain ⟨pB, qB⟩ := Eq.bd no hnz oB hb
          rw [← hrs] at pB qB
          have hcq : cnt bo at_ + 1 ≤ cnt bo (fo q) := by rw [← hc1]; exact cnt_mono bo fq
          have kp := K'.put at_ p
          refine ⟨w - fo q, by have := fo_len q; have := Eq.lr; omega, q, updB bo' at_ p, _, .v (T p), s4, s5, s6, s7, ⟨rfl, rfl, rfl, rfl, rfl, rfl, rfl, rfl⟩, rfl, Eq.lr, fun k => lt_pw (qB k) (rho_mono e0 L hcq), M.put ha Eq.lo Eq.zo Eq.no pB fq, ⟨by have := kp.len; omega, kp.at_⟩, spq, rfl, q4, q5, q6, q7⟩
        · simp [-po_comp, g1, cq]
          obtain ⟨n', hn', En⟩ := Eq.step no hnz cq
          refine po_step fun K5 h5 rt5 _ _ => ?_
          simp [-po_comp, g1, g2, cq, q4]
          refine h5 _ ?_
          obtain ⟨pB, qB⟩ := Eq.bd no hnz oB hb
          obtain ⟨_, sB⟩ := En.bd no hnz oB hb
          rw [← hrs] at pB qB sB
          have hlpq : p.length = q.length := Eq.lo.trans Eq.lr.symm
          have mB : ∀ k, ((St.vec p at_).fdiv (St.vec q at_) * St.vec q k).natAbs < 2 ^ (rho e0 L (cnt bo at_ + 1) + 1) := fun k => by
            have h1 := sB k
            rw [les_vec hlpq] at h1
            have h2 := pB k
            rw [Nat.pow_succ]
            omega
          generalize (St.vec p at_).fdiv (St.vec q at_) = u at *
          refine po_step fun K6 h6' rt6 _ _ => ?_
          simp [-po_comp, po_comp, zip2, q6, q7]
          refine po_compM (f := fun z : Int × Int => PyData.tuple [.int z.1, .int z.2]) (g := fun z : Int × Int => PyData.int (z.1 - u * z.2)) (fun z => ∃ s6 s7, z = [.io (.d kvs'), .v (T q), .v (.int (at_ : Nat)), .v (T p), .v (.int u), s5, s6, s7]) (List.zip p q) [] _ ⟨_, _, rfl⟩ (by simp [-po_comp]; have := Eq.lo; omega) ?_ ?_
          · rintro ⟨a, b⟩ hm z ⟨s6, s7, rfl⟩
            refine ⟨[.io (.d kvs'), .v (T q), .v (.int (at_ : Nat)), .v (T p), .v (.int u), s5, .v (.int a), .v (.int b)], by simp, ?_⟩
            have mo : mulOk u b := by
              obtain ⟨k, hk, rfl⟩ := List.getElem_of_mem (List.of_mem_zip hm).2
              have e := get_vec hk
              rw [List.getElem?_eq_getElem hk] at e
              rw [Option.some.inj e]
              exact mulOk_p (mB k) (by omega)
            simp [-po_comp, mo]
          · rintro z ⟨s6', s7', rfl⟩
            have eL : (List.zip p q).map (fun z : Int × Int => (PyData.int (z.1 - u * z.2) : D)) = (les p q u).map .int := by
              rw [← zip_les, List.map_map]
              rfl
            simp [-po_comp, q5]
            rw [eL]
            refine h6' _ ?_
            refine po_step fun K7 h7 rt7 _ _ => ?_
            simp [-po_comp]
            refine h7 _ ?_
            simp [-po_comp]
            refine ⟨n', hn', q, les p q u, .v (.int u), .v (T (les p q u)), s6, s7, by simp, En, fun x => ?_, rfl, rfl, q6, q7⟩
            rw [SpR.turn c (Eq.lo.trans Eq.lr.symm)]
            exact spq x
    · have c1 : ¬ (fo r : Int) < (r.length : Int) := by omega
      simp [-po_comp, c1]
      have hz : ∀ k, St.vec r k = 0 := fun k => by
        rcases Nat.lt_or_ge k (fo r) with q | q
        · exact K14.M.fo_z r k q
        · exact St.vec_out (by omega)
      refine hN _ _ rfl ⟨kvs', bo', _, rfl, ?_, ⟨by omega, K'.at_⟩, fun x => ?_⟩
      · have fw : fo r = w := by omega
        rw [fw] at M
        exact M.fin B
      · rw [← sp, SpR.zero hz]
  · exact ⟨Nat.le_trans Kq.len (Nat.le_add_right ..), Kq.at_⟩
end K14
namespace K14
open PySem Pu L2
open K14.M (T TT fo)
theorem sl_snoc {l : List St.Ve} {a x : St.Ve} : St.Sl (l ++ [a]) x ↔ ∃ c : Int, St.Sl l fun i => x i - c * a i := by
  rw [← St.sl_cons]
  constructor
  · exact St.Sp.mono fun r hr => by
      rcases List.mem_append.mp hr with h | h
      · exact List.mem_cons_of_mem _ h
      · rw [List.mem_singleton.mp h]
        exact List.mem_cons_self ..
  · exact St.Sp.mono fun r hr => by
      rcases List.mem_cons.mp hr with h | h
      · rw [h]
        simp [-po_comp]
      · exact List.mem_append_left _ h
/-- the bounds of the rows by feet behind so many rows, the k-th of them of b + k bits -/
def tab (b : Nat) : Nat → List Nat
  | 0 => []
  | n + 1 => nx (b + n) (tab b n)
theorem tab_len (b : Nat) : ∀ n, (tab b n).length = n
  | 0 => rfl
  | n + 1 => by
    show (nx (b + n) (tab b n)).length = _
    rw [nx_len, tab_len b n]
theorem cnt_none : ∀ i, cnt (fun _ => none) i = 0
  | 0 => rfl
  | i + 1 => by
    show cnt (fun _ => none) i + 0 = 0
    rw [cnt_none i]
theorem basis_ok {X : Exn → En → Prop} {w b0 : Nat} {rs : List (List Int)} {d : D} (w1 : w ≤ 14) (n1 : rs.length ≤ 14) (R : ∀ r ∈ rs, r.length = w) (hb : ∀ i r, rs[i]? = some r → ∀ k, (St.vec r k).natAbs < 2 ^ (b0 + i)) (lim : ∀ i, i < rs.length → rho (b0 + i) (tab b0 i) i + 10 < 100000000) (hd : d = .list (rs.map fun r => T r) ∨ d = TT rs) :
    Wp X (m__law_basis [.v d]) fun rv _ => ∃ kvs bo, rv = .o (.d kvs) ∧ Bn w (tab b0 rs.length) bo ∧ Kv 196 kvs bo ∧ ∀ x, SpB w bo x ↔ St.Sl (rs.map St.vec) x := by
  refine po_fnK fun Y K hY hK _ => ?_
  unfold b__law_basis
  refine po_step fun K1 h1 _ _ _ => ?_
  simp [-po_comp]
  refine h1 _ ?_
  refine po_step fun K2 h2 _ _ _ => ?_
  have key : Wp Y (forL (gN 2) (sDropO (cCallI 1 m__law_put_in (aCons (getS 2) aNil))) (rs.map fun r => T r) [.v d, .o (.d []), .unk]) K2 := by
    refine po_forK (fun done z => ∃ kvs bo s2, z = [.v d, .o (.d kvs), s2] ∧ Bn w (tab b0 done.length) bo ∧ Kv (14 * done.length) kvs bo ∧ (∀ x, SpB w bo x ↔ St.Sl (done.map St.vec) x) ∧ s2.isIo = false) rs _ ⟨[], fun _ => none, .unk, rfl, ⟨fun i r h => (by cases h), (by rw [cnt_none]; exact Nat.zero_le _)⟩, Kv.nil, fun x => ?_, rfl⟩ ?_ ?_
    · rw [List.map_nil, St.sl_nil]
      constructor
      · rintro ⟨c, e⟩ k
        rw [e k]
        exact Dg.sm_zero fun j _ => Int.mul_zero _
      · exact SpB.nought
    · rintro done r rest z e ⟨kvs, bo, s2, rfl, B, Kq, sp, q2⟩
      have hr : r ∈ rs := by rw [e]; simp [-po_comp]
      have hl3 : done.length < rs.length := by
        rw [e]
        simp [-po_comp]
      have hget : rs[done.length]? = some r := by rw [e]; simp [-po_comp]
      refine ⟨[.v d, .o (.d kvs), .v (T r)], by simp [-po_comp, q2], fun K3 h3 _ _ _ => ?_⟩
      simp [-po_comp]
      refine po_mono (put_in_ok B Kq (by omega) (by omega) (R r hr) (hb _ _ hget) (by rw [tab_len]; exact lim _ hl3)) ?_
      rintro _ _ ⟨kvs', bo', t, rfl, B', K', sp'⟩
      simp [-po_comp]
      refine h3 _ ⟨kvs', bo', .v (T r), rfl, ?_, ⟨?_, K'.at_⟩, fun x => ?_, rfl⟩
      · rw [List.length_append, List.length_singleton]
        exact B'
      · have := K'.len
        rw [List.length_append, List.length_singleton]
        omega
      · rw [sp', List.map_append]
        show _ ↔ St.Sl (done.map St.vec ++ [St.vec r]) x
        rw [sl_snoc]
        unfold SpR
        exact exists_congr fun c => sp _
    · rintro z ⟨kvs, bo, s2, rfl, B, Kq, sp, q2⟩
      refine h2 _ ?_
      simp [-po_comp]
      refine hK _ _ _ rfl ⟨kvs, bo, rfl, B, ⟨Nat.le_trans Kq.len (by omega), Kq.at_⟩, sp⟩
  rcases hd with rfl | rfl
  · simp [-po_comp]
    exact key
  · simp [-po_comp]
    exact key
theorem reached_ok {X : Exn → En → Prop} {w om n : Nat} {L : List Nat} {bo : Nat → Option (List Int)} {kvs : List (Key × D)} {W0 : List Int} (B : Bn w L bo) (Kq : Kv n kvs bo) (w1 : w ≤ 14) (lim : rho om L L.length + 10 < 100000000) (hl : W0.length = w) (hb : ∀ k, (St.vec W0 k).natAbs < 2 ^ om) :
    Wp X (m__law_is_reached [.io (.d kvs), .v (T W0)]) fun rv z => ∃ b : Bool, rv = .v (.bool b) ∧ (b = true ↔ SpB w bo (St.vec W0)) ∧ ∃ t, z = .io (.d kvs) :: t := by
  have hle := B.le
  refine po_fnK fun Y K hY hK _ => ?_
  unfold b__law_is_reached
  refine po_step fun K1 h1 rt1 _ _ => ?_
  simp [-po_comp]
  refine ⟨by omega, ?_⟩
  refine po_rngK (fun i z => ∃ (W : List Int) (s2 s3 s4 s5 s6 : Sl), z = [.io (.d kvs), .v (T W), s2, s3, s4, s5, s6] ∧ W.length = w ∧ (∀ k, k < i → St.vec W k = 0) ∧ (SpB w bo (St.vec W) ↔ SpB w bo (St.vec W0)) ∧ (∀ k, (St.vec W k).natAbs < 2 ^ rho om L (cnt bo i)) ∧ s2.isIo = false ∧ s3.isIo = false ∧ s4.isIo = false ∧ s5.own = none ∧ s6.own = none) W0.length _ ⟨W0, _, _, _, _, _, rfl, hl, fun k hk => absurd hk (Nat.not_lt_zero k), Iff.rfl, hb, rfl, rfl, rfl, rfl, rfl⟩ ?_ ?_
  · rintro i z hi ⟨W, s2, s3, s4, s5, s6, rfl, hW, hz, sp, bd, q2, q3, q4, q5, q6⟩
    have hiw : i < w := by omega
    have cw := cnt_mono bo (show i ≤ w by omega)
    have rw_ := rho_mono om L (Nat.le_trans cw hle)
    have g := get_vec (r := W) (k := i) (by omega)
    refine ⟨[.io (.d kvs), .v (T W), .v (.int (i : Nat)), s3, s4, s5, s6], by simp [-po_comp, q2], fun K2 h2 rt2 _ _ => ?_⟩
    by_cases c : St.vec W i = 0
    · simp [-po_comp, g, c]
      refine h2 _ ⟨W, _, _, _, _, _, rfl, hW, fun k hk => ?_, sp, fun k => lt_pw (bd k) (rho_mono om L (cnt_mono bo (by omega))), rfl, q3, q4, q5, q6⟩
      rcases Nat.lt_or_ge k i with z | z
      · exact hz k z
      · rw [show k = i by omega]
        exact c
    · simp [-po_comp, g, c]
      have hat := Kq.at_ i
      have hft := fun h => SpB.foot B.z (x := St.vec W) (i := i) hiw hz h
      refine po_step fun K3 h3 rt3 _ _ => ?_
      cases hbo : bo i with
      | none =>
        rw [hbo] at hat
        have hat : vK kvs (.inl (i : Int)) = none := hat
        simp [-po_comp, hat, q3]
        refine h3 _ ?_
        refine po_step fun K4 h4 rt4 _ _ => ?_
        have e1 : isD PyData.none PyData.none = some (.bool true) := rfl
        simp [-po_comp, e1]
        refine rt4 _ _ ?_
        refine rt2 _ _ ?_
        refine rt1 _ _ ?_
        refine hK _ _ _ rfl ⟨false, rfl, ?_, _, rfl⟩
        simp [-po_comp]
        intro h
        exact c ((hft (sp.mpr h)).1 hbo)
      | some r =>
        rw [hbo] at hat
        have hat : vK kvs (.inl (i : Int)) = some (T r) := hat
        obtain ⟨_, lr, zr, nr, rB⟩ := B.ok i r hbo
        have hc1 : cnt bo (i + 1) = cnt bo i + 1 := cnt_some hbo
        have hc2 := B.ci hbo
        have hrs : rho om L (cnt bo i + 1) = rho om L (cnt bo i) + L.getD (cnt bo i) 0 + 1 := rfl
        have hrl := rho_mono om L hc2
        have g2 := get_vec (r := r) (k := i) (by omega)
        have e1 : isD (T r) PyData.none = some (.bool false) := rfl
        simp [-po_comp, hat, q3]
        refine h3 _ ?_
        refine po_step fun K4 h4 rt4 _ _ => ?_
        simp [-po_comp, e1, g, g2, nr]
        by_cases cd : (St.vec W i).fmod (St.vec r i) = 0
        · simp [-po_comp, cd]
          refine h4 _ ?_
          refine po_step fun K5 h5 rt5 _ _ => ?_
          simp [-po_comp, g, g2, nr, q4]
          refine h5 _ ?_
          have hq := Dg.fdiv_abs (St.vec W i) nr
          have hm : St.vec W i - (St.vec W i).fdiv (St.vec r i) * St.vec r i = 0 := by rw [fdm]; exact cd
          have qb : ((St.vec W i).fdiv (St.vec r i)).natAbs < 2 ^ rho om L (cnt bo i) := Nat.lt_of_le_of_lt hq (bd i)
          generalize (St.vec W i).fdiv (St.vec r i) = u at *
          simp [-po_comp, po_comp, zip2, q5, q6]
          refine po_compM (f := fun z : Int × Int => PyData.tuple [.int z.1, .int z.2]) (g := fun z : Int × Int => PyData.int (z.1 - u * z.2)) (fun z => ∃ s5 s6, z = [.io (.d kvs), .v (T W), .v (.int (i : Nat)), .v (T r), .v (.int u), s5, s6]) (List.zip W r) [] _ ⟨_, _, rfl⟩ (by simp [-po_comp]; omega) ?_ ?_
          · rintro ⟨a, b⟩ hm' z ⟨s5, s6, rfl⟩
            refine ⟨[.io (.d kvs), .v (T W), .v (.int (i : Nat)), .v (T r), .v (.int u), .v (.int a), .v (.int b)], by simp, ?_⟩
            have hb2 : b.natAbs < 2 ^ L.getD (cnt bo i) 0 := by
              obtain ⟨k, hk, rfl⟩ := List.getElem_of_mem (List.of_mem_zip hm').2
              have := rB k
              have e := get_vec hk
              rw [List.getElem?_eq_getElem hk] at e
              rw [Option.some.inj e]
              exact this
            have mo : mulOk u b := K14.M.mulOk_b qb hb2 (by omega)
            simp [-po_comp, mo]
          · rintro z ⟨s5', s6', rfl⟩
            have eL : (List.zip W r).map (fun z : Int × Int => (PyData.int (z.1 - u * z.2) : D)) = (les W r u).map .int := by
              rw [← zip_les, List.map_map]
              rfl
            simp [-po_comp]
            rw [eL]
            have lWr : W.length = r.length := by omega
            have ev : ∀ k, St.vec (les W r u) k = St.vec W k - u * St.vec r k := les_vec lWr
            refine h2 _ ⟨les W r u, .v (.int (i : Nat)), .v (T r), .v (.int u), s5, s6, rfl, by rw [les_len lWr]; exact lr, fun k hk => ?_, ?_, fun k => ?_, rfl, rfl, rfl, q5, q6⟩
            · rw [ev]
              rcases Nat.lt_or_ge k i with z | z
              · rw [hz k z, zr k z]
                simp [-po_comp]
              · rw [show k = i by omega]
                exact hm
            · rw [← sp]
              have : St.vec (les W r u) = fun k => St.vec W k - u * St.vec r k := funext ev
              rw [this]
              exact SpB.off hiw hbo u _
            · rw [ev]
              have h1 : (u * St.vec r k).natAbs < 2 ^ rho om L (cnt bo i) * 2 ^ L.getD (cnt bo i) 0 := by
                rw [Int.natAbs_mul]
                exact Nat.mul_lt_mul_of_lt_of_lt qb (rB k)
              rw [← Nat.pow_add] at h1
              have h2 := lt_pw (bd k) (Nat.le_add_right _ (L.getD (cnt bo i) 0))
              rw [hc1, hrs, Nat.pow_succ]
              omega
        · simp [-po_comp, cd]
          refine rt4 _ _ ?_
          refine rt2 _ _ ?_
          refine rt1 _ _ ?_
          refine hK _ _ _ rfl ⟨false, rfl, ?_, _, rfl⟩
          simp [-po_comp]
          intro h
          exact cd (Int.fmod_eq_zero_of_dvd ((hft (sp.mpr h)).2 r hbo))
  · rintro z ⟨W, s2, s3, s4, s5, s6, rfl, hW, hz, sp, bd, q2, q3, q4, q5, q6⟩
    refine h1 _ ?_
    simp [-po_comp]
    refine hK _ _ _ rfl ⟨true, rfl, ?_, _, rfl⟩
    simp [-po_comp]
    rw [← sp]
    exact SpB.nought fun k => by
      rcases Nat.lt_or_ge k w with c | c
      · exact hz k (by omega)
      · exact St.vec_out (by omega)
end K14
namespace K14.L
open PySem Pu L2
theorem mulOk_b {i j : Int} {b c : Nat} (h1 : i.natAbs < 2 ^ b) (h2 : j.natAbs < 2 ^ c) (h : b + c < 100000000) : mulOk i j := by
  refine .inr (.inr ?_)
  have key : ∀ (z : Nat) (d : Nat), z < 2 ^ d → z.log2 ≤ d := fun z d hz => by
    by_cases h0 : z = 0
    · rw [h0]
      simp [-po_comp]
    · exact Nat.le_of_lt ((Nat.log2_lt h0).mpr hz)
  have := key _ _ h1
  have := key _ _ h2
  omega
theorem get_vec {r : List Int} {k : Nat} (h : k < r.length) : r[k]? = some (St.vec r k) := by
  rw [List.getElem?_eq_getElem h, St.vec_get h]
theorem vec_set (F : List Int) (a : Nat) (x : Int) (i : Nat) : St.vec (F.set a x) i = if i = a ∧ a < F.length then x else St.vec F i := by
  unfold St.vec
  rw [List.getD_eq_getElem?_getD, List.getD_eq_getElem?_getD, List.getElem?_set]
  by_cases h : a = i
  · subst h
    by_cases h2 : a < F.length
    · simp [-po_comp, h2]
    · simp [-po_comp, h2]
  · have : ¬ i = a := fun z => h z.symm
    simp [-po_comp, h, this]
theorem dot_snoc : ∀ (m : List Int) (rs : List (List Int)) (c : Int) (r : List Int) (i : Nat), m.length = rs.length → St.dot (m ++ [c]) (rs ++ [r]) i = St.dot m rs i + c * St.vec r i
  | [], [], c, r, i, _ => by
    show c * St.vec r i + 0 = 0 + c * St.vec r i
    omega
  | x :: m, q :: rs, c, r, i, h => by
    show x * St.vec q i + St.dot (m ++ [c]) (rs ++ [r]) i = x * St.vec q i + St.dot m rs i + c * St.vec r i
    rw [dot_snoc m rs c r i (by simpa using h)]
    omega
  | [], _ :: _, _, _, _, h => by simp [-po_comp] at h
  | _ :: _, [], _, _, _, h => by simp [-po_comp] at h
theorem mixed_ok {X : Exn → En → Prop} {ns : List Int} {rs : List (List Int)} {w b c : Nat} (hw : ∀ r ∈ rs, r.length = w) (w1 : w ≤ 1000) (hl : ns.length = rs.length) (n1 : rs.length ≤ 1000) (hn : ∀ x ∈ ns, x.natAbs < 2 ^ c) (hb : ∀ r ∈ rs, ∀ x ∈ r, x.natAbs < 2 ^ b) (hlim : b + c < 100000000) {d : D} (hd : d = T ns ∨ d = .list (ns.map .int)) :
    Wp X (m__law_mixed [.v (.int w), .v d, .v (TT rs)]) fun rv _ => ∃ L, rv = .v (T L) ∧ L.length = w ∧ ∀ i, St.vec L i = St.dot ns rs i := by
  refine po_fnK fun Y K hY hK _ => ?_
  unfold b__law_mixed
  refine po_step fun K1 h1 _ _ _ => ?_
  simp [-po_comp]
  refine ⟨by omega, ?_⟩
  refine h1 _ ?_
  have e0 : List.replicate w (PyData.int 0) = (List.replicate w (0 : Int)).map .int := by simp [-po_comp]
  rw [e0]
  have hz0 : ∀ i, St.vec (List.replicate w 0) i = 0 := fun i => by
    rcases Nat.lt_or_ge i w with q | q
    · rw [St.vec_get (by simpa using q)]
      simp [-po_comp]
    · exact St.vec_out (by simpa using q)
  have hl0 : (List.replicate w (0 : Int)).length = w := by simp [-po_comp]
  generalize List.replicate w (0 : Int) = F0 at *
  have ez : zipMx [d, TT rs] = some ((List.zip ns rs).map fun p => .tuple [.int p.1, T p.2]) := by
    rw [← zipD_map]
    rcases hd with rfl | rfl <;> rfl
  refine po_step fun K2 h2 _ _ _ => ?_
  simp [-po_comp, ez]
  refine po_forK (fun done r => ∃ (F : List Int) (s4 s5 s6 : Sl), r = [.v (.int w), .v d, .v (TT rs), .o (.l (F.map .int)), s4, s5, s6] ∧ s4.isIo = false ∧ s5.isIo = false ∧ s6.isIo = false ∧ F.length = w ∧ ∀ i, St.vec F i = St.dot (done.map (·.1)) (done.map (·.2)) i) (List.zip ns rs) _ ⟨F0, .unk, .unk, .unk, rfl, rfl, rfl, rfl, hl0, fun i => ?_⟩ ?_ ?_
  · exact hz0 i
  · rintro done ⟨x, q⟩ rest r hs ⟨F, s4, s5, s6, rfl, q4, q5, q6, hF, hv⟩
    have hm : (x, q) ∈ List.zip ns rs := by rw [hs]; simp [-po_comp]
    have hx := hn x (List.of_mem_zip hm).1
    have hq := (List.of_mem_zip hm).2
    have lq := hw q hq
    refine ⟨[.v (.int w), .v d, .v (TT rs), .o (.l (F.map .int)), .v (.int x), .v (T q), s6], by simp [-po_comp, q4, q5], fun K3 h3 _ _ _ => ?_⟩
    simp [-po_comp]
    refine ⟨by omega, ?_⟩
    refine po_rngK (fun k r => ∃ (G : List Int) (s6 : Sl), r = [.v (.int w), .v d, .v (TT rs), .o (.l (G.map .int)), .v (.int x), .v (T q), s6] ∧ s6.isIo = false ∧ G.length = w ∧ ∀ i, St.vec G i = St.vec F i + if i < k then x * St.vec q i else 0) _ _ ⟨F, s6, rfl, q6, hF, fun i => by simp⟩ ?_ ?_
    · rintro k r hk ⟨G, s6, rfl, q6, hG, hg⟩
      refine ⟨[.v (.int w), .v d, .v (TT rs), .o (.l (G.map .int)), .v (.int x), .v (T q), .v (.int k)], by simp [-po_comp, q6], fun K4 h4 _ _ _ => ?_⟩
      have eg := get_vec (r := G) (k := k) (by omega)
      have eq := get_vec (r := q) (k := k) (by omega)
      have ix : ixN G.length (k : Int) = some k := ixN_nat (by omega)
      simp [-po_comp, eg, eq, ix]
      refine ⟨mulOk_b hx (hb q hq _ (St.vec_mem (by omega))) (by omega), ?_⟩
      refine h4 _ ⟨G.set k (St.vec G k + x * St.vec q k), .v (.int k), by simp, rfl, by simpa using hG, fun i => ?_⟩
      rw [vec_set]
      by_cases c1 : i = k
      · subst c1
        rw [if_pos ⟨rfl, by omega⟩, if_pos (by omega), hg i, if_neg (by omega)]
        omega
      · rw [if_neg (fun h => c1 h.1), hg i]
        have : i < k + 1 ↔ i < k := by omega
        simp only [this]
    · rintro r ⟨G, s6, rfl, q6, hG, hg⟩
      refine h3 _ ⟨G, .v (.int x), .v (T q), s6, rfl, rfl, rfl, q6, hG, fun i => ?_⟩
      rw [List.map_append, List.map_append]
      show _ = St.dot (done.map (·.1) ++ [x]) (done.map (·.2) ++ [q]) i
      rw [dot_snoc _ _ _ _ _ (by simp [-po_comp]), hg i, hv i]
      rcases Nat.lt_or_ge i w with c1 | c1
      · rw [if_pos c1]
      · rw [if_neg (by omega), St.vec_out (by omega)]
        simp [-po_comp]
  · rintro r ⟨F, s4, s5, s6, rfl, q4, q5, q6, hF, hv⟩
    refine h2 _ ?_
    simp [-po_comp]
    refine hK _ _ _ rfl ⟨F, rfl, hF, fun i => ?_⟩
    rw [hv i, List.map_fst_zip (by omega), List.map_snd_zip (by omega)]
end K14.L
namespace K14
open PySem Pu L2
open K14.M (T TT fo)
open K14.L (PenL DrL Rw)
/-- the lines that the numbers stay below -/
structure Lm (w : Nat) (rs : List (List Int)) (L : List Nat) : Prop where
  w14 : w ≤ 14
  n14 : rs.length ≤ 14
  lr : ∀ r ∈ rs, r.length = w
  b : ∀ r ∈ rs, ∀ x ∈ r, x.natAbs < 2 ^ 64
  lim : rho 90 L L.length + 10 < 100000000
theorem lim_w {w : Nat} (h : w ≤ 14) : K14.M.Lim 64 w := fun i hi => by
  have key : ∀ i, i < 14 → 2 * St.bb 64 (i + 1) + 2 * St.cc 64 i + 100 < 100000000 := by decide +kernel
  exact key i (by omega)
theorem cc_w {w : Nat} (h : w ≤ 14) : 90 + w + St.cc 64 w + 200 < 100000000 := by
  have key : ∀ w, w < 15 → 90 + w + St.cc 64 w + 200 < 100000000 := by decide +kernel
  exact key w (by omega)
theorem vb {W : List Int} {b : Nat} (h : ∀ x ∈ W, x.natAbs < 2 ^ b) (k : Nat) : (St.vec W k).natAbs < 2 ^ b := by
  rcases Nat.lt_or_ge k W.length with c | c
  · exact h _ (List.mem_of_getElem? (get_vec c))
  · rw [St.vec_out c]
    exact Nat.pow_pos (by decide)
theorem right_ok {X : Exn → En → Prop} {w n : Nat} {rs : List (List Int)} {L : List Nat} {bo : Nat → Option (List Int)} {kvs : List (Key × D)} {W : List Int} (M : Lm w rs L) (B : Bn w L bo) (Kq : Kv n kvs bo) (sp : ∀ x, SpB w bo x ↔ St.Sl (rs.map St.vec) x) (hW : W.length = w) (hb : ∀ x ∈ W, x.natAbs < 2 ^ 90) :
    Wp X (m__law_right [.v (.int w), .v (TT rs), .io (.d kvs), .v (T W)]) fun rv z => rv = .v (.bool true) ∧ ∃ x0 x1 x3, z = [x0, x1, .io (.d kvs), x3] := by
  have w14 := M.w14
  have n14 := M.n14
  refine po_fnK fun Y K hY hK _ => ?_
  unfold b__law_right
  refine po_step fun K1 k1 _ _ _ => ?_
  simp [-po_comp]
  refine po_mono (K14.M.mixing_ok (b := 64) (e := 90) M.lr M.b (by decide) (by omega) (by omega) (lim_w w14) hW hb (by have := cc_w w14; omega)) ?_
  intro rv0 z0 hm
  have hd : ∃ d : D, rv0 = .v d ∧ ((¬ St.Sl (rs.map St.vec) (St.vec W) ∧ d = .none) ∨ ∃ cs : List Int, d = T cs ∧ cs.length = rs.length ∧ (∀ x ∈ cs, x.natAbs < 2 ^ (90 + w + St.cc 64 w)) ∧ ∀ i, St.vec W i = St.dot cs rs i) := by
    rcases hm with ⟨h1, rfl⟩ | ⟨cs, rfl, h⟩
    · exact ⟨_, rfl, .inl ⟨h1, rfl⟩⟩
    · exact ⟨_, rfl, .inr ⟨cs, rfl, h⟩⟩
  obtain ⟨d, rfl, hd⟩ := hd
  simp [-po_comp]
  refine k1 _ ?_
  refine po_step fun K2 k2 r2 _ _ => ?_
  simp [-po_comp]
  refine po_mono (reached_ok B Kq w14 M.lim hW (vb hb)) ?_
  rintro _ _ ⟨b, rfl, hr, t, rfl⟩
  rw [sp] at hr
  rcases hd with ⟨h1, rfl⟩ | ⟨cs, rfl, lc, cb, ec⟩
  · have hb0 : b = false := by
      cases b with
      | false => rfl
      | true => exact (h1 (hr.mp rfl)).elim
    subst hb0
    have ei : isD .none .none = some (.bool true) := rfl
    simp [-po_comp, ei]
    exact r2 _ _ (hK _ _ _ rfl ⟨rfl, _, _, _, rfl⟩)
  · have hb0 : b = true := by
      refine hr.mpr ?_
      have : St.vec W = St.dot cs rs := funext ec
      rw [this]
      exact St.dot_sp cs rs
    subst hb0
    simp [-po_comp]
    refine k2 _ ?_
    refine po_step fun K3 k3 _ _ _ => ?_
    simp [-po_comp, lc]
    refine k3 _ ?_
    refine po_step fun K4 k4 _ _ _ => ?_
    simp
    refine po_compF (f := fun x : Int => PyData.int x) (g := fun x : Int => PyData.int x) (p := fun _ => false) (fun z => ∃ s5, z = [.v (.int w), .v (TT rs), .io (.d kvs), .v (T W), .v (T cs), s5]) cs [] _ ⟨_, rfl⟩ (by simp [-po_comp]; omega) ?_ ?_
    · rintro x hx z ⟨s5, rfl⟩
      exact ⟨[.v (.int w), .v (TT rs), .io (.d kvs), .v (T W), .v (T cs), .v (.int x)], by simp, by simp⟩
    · rintro z ⟨s5, rfl⟩
      have e0 : neD (.list ((cs.filter fun _ => false).map fun x => .int x)) (.list []) = some (.bool false) := by
        rw [show cs.filter (fun _ => false) = [] from List.filter_eq_nil_iff.mpr fun _ _ => by simp]
        rfl
      simp only [List.nil_append]
      simp [-po_comp, e0]
      refine k4 _ ?_
      simp [-po_comp]
      refine po_mono (K14.L.mixed_ok (b := 64) (c := 90 + w + St.cc 64 w) M.lr (by omega) lc (by omega) cb M.b (by have := cc_w w14; omega) (.inl rfl)) ?_
      rintro _ _ ⟨L', rfl, Ll, Lv⟩
      have eW : L' = W := St.vec_ext (by omega) fun i => by rw [Lv, ec]
      subst eW
      simp [-po_comp]
      exact hK _ _ _ rfl ⟨rfl, _, _, _, rfl⟩
section
variable {X : Exn → En → Prop} {w : Nat} {rs : List (List Int)} {p : Ct} {way : Int}
theorem word_ok (hp : PenL p) (w14 : w ≤ 14) (n14 : rs.length ≤ 14) (lr : ∀ r ∈ rs, r.length = w) (hb : ∀ r ∈ rs, ∀ x ∈ r, x.natAbs < 2 ^ 36) (y0 : 0 ≤ way) (y1 : way < 4) : Wp X (m__law_word [.io p, .v (.int w), .v (TT rs), .v (.int way)]) fun rv z => ∃ (W : List Int) (c : Ct) (t : List Sl), rv = .v (T W) ∧ W.length = w ∧ (∀ x ∈ W, x.natAbs < 2 ^ 90) ∧ z = .io c :: t ∧ PenL c := by
  refine po_fnK fun Y K hY hK _ => ?_
  unfold b__law_word
  refine po_step fun K1 k1 r1 _ _ => ?_
  by_cases w3 : way = 3
  · subst w3
    simp [-po_comp]
    refine po_step fun K2 k2 _ _ _ => ?_
    simp [-po_comp]
    refine po_mono (K14.L.draw_ok hp (by decide) (by decide)) ?_
    rintro _ _ ⟨u, c, t, rfl, u0, u1, rfl, hp⟩
    obtain ⟨f, ef, f1, f2⟩ : ∃ f : Int, atI [PyData.int 9, .int (10 ^ 8)] u = some (.int f) ∧ 0 ≤ f ∧ f ≤ 10 ^ 8 := by
      have : u = 0 ∨ u = 1 := by omega
      rcases this with rfl | rfl
      · exact ⟨9, rfl, by decide, by decide⟩
      · exact ⟨10 ^ 8, rfl, by decide, by decide⟩
    simp [-po_comp] at ef
    simp [-po_comp, ef]
    refine k2 _ ?_
    have mo : mulOk 2 f := .inl (by decide)
    simp
    refine ⟨by omega, ?_⟩
    rw [rng_map]
    refine po_compC (fun acc z => ∃ (r : List Int) (c : Ct) (s7 : Sl), acc = r.map .int ∧ z = [.io c, .v (.int w), .v (TT rs), .v (.int 3), .v (.int f), .unk, .unk, s7, .unk, .unk] ∧ (∀ x ∈ r, x.natAbs < 2 ^ 90) ∧ PenL c ∧ s7.isIo = false) (List.range w) _ ⟨[], c, .unk, rfl, rfl, by simp, hp, rfl⟩ (by simp [-po_comp]; omega) ?_ ?_
    · rintro x acc z hx ⟨r, c, s7, rfl, rfl, rb, hp, q7⟩
      refine ⟨[.io c, .v (.int w), .v (TT rs), .v (.int 3), .v (.int f), .unk, .unk, .v (.int (x : Nat)), .unk, .unk], by simp [-po_comp, q7], fun K4 k4 => ?_⟩
      simp [-po_comp, mo]
      refine po_mono (K14.L.draw_ok hp (by omega) (by omega)) ?_
      rintro _ _ ⟨v, c, t, rfl, v0, v1, rfl, hp⟩
      simp [-po_comp]
      refine k4 _ _ ⟨r ++ [v - f], c, _, by simp, rfl, fun y hy => ?_, hp, rfl⟩
      rcases List.mem_append.mp hy with h | h
      · exact rb y h
      · rw [List.mem_singleton.mp h]
        omega
    · rintro acc z ha ⟨r, c, s7, rfl, rfl, rb, hp, q7⟩
      rw [List.length_map, List.length_range] at ha
      simp [-po_comp]
      exact r1 _ _ (hK _ _ _ rfl ⟨r, c, _, rfl, ha, rb, rfl, hp⟩)
  · simp [-po_comp, w3]
    refine k1 _ ?_
    refine po_step fun K2 k2 _ _ _ => ?_
    simp [-po_comp]
    refine po_mono (K14.L.draw_ok hp (by decide) (by decide)) ?_
    rintro _ _ ⟨u, c, t, rfl, u0, u1, rfl, hp⟩
    obtain ⟨f, ef, f1, f2⟩ : ∃ f : Int, atI [PyData.int 9, .int 9, .int (10 ^ 14 - 1)] u = some (.int f) ∧ 0 ≤ f ∧ f ≤ 10 ^ 14 := by
      have : u = 0 ∨ u = 1 ∨ u = 2 := by omega
      rcases this with rfl | rfl | rfl
      · exact ⟨9, rfl, by decide, by decide⟩
      · exact ⟨9, rfl, by decide, by decide⟩
      · exact ⟨10 ^ 14 - 1, rfl, by decide, by decide⟩
    simp [-po_comp] at ef
    simp [-po_comp, ef]
    refine k2 _ ?_
    have mo : mulOk 2 f := .inl (by decide)
    refine po_step fun K3 k3 _ _ _ => ?_
    simp
    refine po_compC (f := fun r => T r) (fun acc z => ∃ (r : List Int) (c : Ct) (s8 : Sl), acc = r.map .int ∧ z = [.io c, .v (.int w), .v (TT rs), .v (.int way), .v (.int f), .unk, .unk, .unk, s8, .unk] ∧ (∀ x ∈ r, x.natAbs < 2 ^ 47) ∧ PenL c ∧ s8.isIo = false) rs _ ⟨[], c, .unk, rfl, rfl, by simp, hp, rfl⟩ (by omega) ?_ ?_
    · rintro x acc z hx ⟨r, c, s8, rfl, rfl, rb, hp, q8⟩
      refine ⟨[.io c, .v (.int w), .v (TT rs), .v (.int way), .v (.int f), .unk, .unk, .unk, .v (T x), .unk], by simp [-po_comp, q8], fun K4 k4 => ?_⟩
      simp [-po_comp, mo]
      refine po_mono (K14.L.draw_ok hp (by omega) (by omega)) ?_
      rintro _ _ ⟨v, c, t, rfl, v0, v1, rfl, hp⟩
      simp [-po_comp]
      refine k4 _ _ ⟨r ++ [v - f], c, _, by simp, rfl, fun y hy => ?_, hp, rfl⟩
      rcases List.mem_append.mp hy with h | h
      · exact rb y h
      · rw [List.mem_singleton.mp h]
        omega
    · rintro acc z ha ⟨ms, c, s8, rfl, rfl, mb, hp, q8⟩
      rw [List.length_map] at ha
      simp [-po_comp]
      refine k3 _ ?_
      refine po_step fun K4 k4 _ _ _ => ?_
      simp [-po_comp]
      refine po_mono (K14.L.mixed_ok (b := 36) (c := 47) lr (by omega) ha (by omega) mb hb (by decide) (.inr rfl)) ?_
      rintro _ _ ⟨W, rfl, lW, vW⟩
      have bW : ∀ x ∈ W, x.natAbs < 2 ^ 89 := fun x hx => by
        obtain ⟨k, hk, rfl⟩ := List.getElem_of_mem hx
        have e := get_vec hk
        rw [List.getElem?_eq_getElem hk] at e
        rw [Option.some.inj e, vW]
        have key : ∀ (ms : List Int) (rs : List (List Int)), (∀ x ∈ ms, x.natAbs < 2 ^ 47) → (∀ r ∈ rs, ∀ x ∈ r, x.natAbs < 2 ^ 36) → (St.dot ms rs k).natAbs ≤ rs.length * (2 ^ 47 * 2 ^ 36) := fun ms => by
          induction ms with
          | nil =>
            intro rs _ _
            cases rs <;> exact Nat.zero_le _
          | cons m ms ih =>
            intro rs hm hr
            cases rs with
            | nil => exact Nat.zero_le _
            | cons r rs =>
              have h1 := ih rs (fun x hx => hm x (List.mem_cons_of_mem _ hx)) fun r hr' => hr r (List.mem_cons_of_mem _ hr')
              have h2 : (m * St.vec r k).natAbs ≤ 2 ^ 47 * 2 ^ 36 := by
                rw [Int.natAbs_mul]
                exact Nat.mul_le_mul (Nat.le_of_lt (hm m (List.mem_cons_self ..))) (Nat.le_of_lt (vb (hr r (List.mem_cons_self ..)) k))
              show (m * St.vec r k + St.dot ms rs k).natAbs ≤ (rs.length + 1) * _
              omega
        have h1 := key ms rs mb hb
        have h2 : rs.length * (2 ^ 47 * 2 ^ 36) ≤ 14 * (2 ^ 47 * 2 ^ 36) := Nat.mul_le_mul_right _ n14
        exact Nat.lt_of_le_of_lt (Nat.le_trans h1 h2) (by decide)
      simp [-po_comp]
      refine k4 _ ?_
      have bW2 : ∀ x ∈ W, x.natAbs < 2 ^ 90 := fun x hx => Nat.lt_trans (bW x hx) (by decide)
      have : way = 0 ∨ way = 1 ∨ way = 2 := by omega
      rcases this with rfl | rfl | rfl
      · refine po_step fun K5 k5 _ _ _ => ?_
        simp [-po_comp]
        refine k5 _ ?_
        refine po_step fun K6 k6 _ _ _ => ?_
        simp [-po_comp]
        refine k6 _ ?_
        refine po_step fun K7 k7 _ _ _ => ?_
        simp [-po_comp]
        refine po_mono (K14.L.draw_ok hp (by decide) (by decide)) ?_
        rintro _ _ ⟨v, c, t, rfl, v0, v1, rfl, hp⟩
        by_cases c0 : v = 0
        · subst c0
          simp [-po_comp]
          refine ⟨by omega, ?_⟩
          refine k7 _ ?_
          simp [-po_comp]
          exact hK _ _ _ rfl ⟨List.replicate w 0, c, _, by simp, by simp, fun x hx => by rw [(List.mem_replicate.mp hx).2]; exact Nat.pow_pos (by decide), rfl, hp⟩
        · simp [-po_comp, c0]
          refine k7 _ ?_
          simp [-po_comp]
          exact hK _ _ _ rfl ⟨W, c, _, rfl, lW, bW2, rfl, hp⟩
      · refine po_step fun K5 k5 _ _ _ => ?_
        have rest : ∀ (c : Ct) (W' : List Int) (s4 s5 s7 s8 s9 : Sl), PenL c → W'.length = w → (∀ x ∈ W', x.natAbs < 2 ^ 90) → K5 .nx [.io c, .v (.int w), .v (TT rs), .v (.int 1), s4, s5, .v (T W'), s7, s8, s9] := by
          intro c W' s4 s5 s7 s8 s9 hp lW' bW'
          refine k5 _ ?_
          refine po_step fun K6 k6 _ _ _ => ?_
          simp [-po_comp]
          refine k6 _ ?_
          refine po_step fun K7 k7 _ _ _ => ?_
          simp [-po_comp]
          refine k7 _ ?_
          simp [-po_comp]
          exact hK _ _ _ rfl ⟨W', c, _, rfl, lW', bW', rfl, hp⟩
        by_cases w0 : w = 0
        · subst w0
          simp [-po_comp]
          exact rest c W _ _ _ _ _ hp lW bW2
        · have w0' : (0 : Int) < (w : Nat) := by omega
          simp [-po_comp, w0, w0', Nat.pos_of_ne_zero w0]
          refine po_step fun K6 k6 _ _ _ => ?_
          simp [-po_comp]
          refine po_mono (K14.L.draw_ok hp (by omega) (by omega)) ?_
          rintro _ _ ⟨i, c, t, rfl, i0, i1, rfl, hp⟩
          obtain ⟨i, rfl⟩ := Int.eq_ofNat_of_zero_le i0
          simp [-po_comp]
          refine k6 _ ?_
          have g := get_vec (r := W) (k := i) (by omega)
          simp [-po_comp, g]
          refine po_mono (K14.L.draw_ok hp (by decide) (by decide)) ?_
          rintro _ _ ⟨v, c, t, rfl, v0, v1, rfl, hp⟩
          have mo : mulOk 2 v := .inl (by decide)
          have e2 : cutL (W.map PyData.int) (some ((i : Int) + 1)) none = (W.map PyData.int).drop (i + 1) := cutL_drop _ (i + 1)
          simp [-po_comp, mo, cutL_take, e2]
          refine ⟨by omega, by omega, ?_⟩
          have z := rest c (W.take i ++ (St.vec W i + 1 - 2 * v) :: W.drop (i + 1)) (.v (.int f)) (.v (.list (ms.map .int))) (.v (.int (i : Nat))) .unk .unk hp (by simp [-po_comp]; omega) (fun x hx => by
            rcases List.mem_append.mp hx with h | h
            · exact bW2 x (List.mem_of_mem_take h)
            · rcases List.mem_cons.mp h with h | h
              · have h3 := bW _ (List.mem_of_getElem? g)
                rw [h]
                have h4 : (2 : Nat) ^ 89 + 2 < 2 ^ 90 := by decide
                omega
              · exact bW2 x (List.mem_of_mem_drop h))
          have ez : T (W.take i ++ (St.vec W i + 1 - 2 * v) :: W.drop (i + 1)) = .tuple ((W.map PyData.int).take i ++ PyData.int (St.vec W i + 1 - 2 * v) :: (W.map PyData.int).drop (i + 1)) := by simp [-po_comp]
          rw [ez] at z
          exact z
      · refine po_step fun K5 k5 _ _ _ => ?_
        simp [-po_comp]
        refine k5 _ ?_
        refine po_step fun K6 k6 _ _ _ => ?_
        simp
        refine po_compM (f := fun x : Int => PyData.int x) (g := fun x : Int => PyData.int (x.fdiv 2)) (fun z => ∃ s9, z = [.io c, .v (.int w), .v (TT rs), .v (.int 2), .v (.int f), .v (.list (ms.map .int)), .v (T W), .unk, .unk, s9]) W [] _ ⟨_, rfl⟩ (by simp [-po_comp]; omega) ?_ ?_
        · rintro x hx z ⟨s9, rfl⟩
          exact ⟨[.io c, .v (.int w), .v (TT rs), .v (.int 2), .v (.int f), .v (.list (ms.map .int)), .v (T W), .unk, .unk, .v (.int x)], by simp, by simp⟩
        · rintro z ⟨s9, rfl⟩
          have eL : (W.map fun x : Int => (PyData.int (x.fdiv 2) : D)) = (W.map fun x => x.fdiv 2).map .int := by
            rw [List.map_map]
            rfl
          simp only [List.nil_append]
          rw [eL]
          simp [-po_comp]
          refine k6 _ ?_
          refine po_step fun K7 k7 _ _ _ => ?_
          simp [-po_comp]
          refine k7 _ ?_
          simp [-po_comp]
          refine hK _ _ _ rfl ⟨W.map fun x => x.fdiv 2, c, _, by simp, by simpa using lW, fun y hy => ?_, rfl, hp⟩
          obtain ⟨x, hx, rfl⟩ := List.mem_map.mp hy
          exact Nat.lt_of_le_of_lt (Dg.fdiv_abs x (by decide)) (bW2 x hx)
end
end K14
namespace K14
open PySem Pu L2
open K14.M (T TT fo)
open K14.L (PenL DrL Rw)
theorem repr_TT {w : Nat} {rs : List (List Int)} (hw : w ≤ 14) (hn : rs.length ≤ 20) (lr : ∀ r ∈ rs, r.length = w) (hb : ∀ r ∈ rs, ∀ x ∈ r, x.natAbs < 2 ^ 64) : ∃ z, reprD (TT rs) = some (.str z) := by
  refine ⟨_, repr_t ?_ ?_ ?_⟩
  · refine plnAll_map _ _ fun r hr => ?_
    exact plnAll_map _ _ fun x hx => decide_eq_true (Nat.lt_trans (hb r hr x hx) (by decide))
  · have h1 := depthAll_map (fun r => T r) 2 rs fun x _ => by
      have := depthAll_map PyData.int 1 x fun x _ => by simp [-po_comp, PyData.depth]
      simp only [PyData.depth]
      omega
    simp only [PyData.depth]
    omega
  · have h1 := bulkAll_map (fun r => T r) 14 rs fun x hx => by
      have := bulkAll_map PyData.int 0 x fun x _ => by simp [-po_comp, PyData.bulk]
      have := lr x hx
      simp only [PyData.bulk]
      omega
    simp only [PyData.bulk]
    omega
theorem sIx_last (n : Nat) : HT.sIx n n (some (-1)) = n - 1 := by
  unfold HT.sIx
  simp [-po_comp]
  omega
theorem cut_last {α : Type} (f : α → D) (xs : List α) : cutL (xs.map f) none (some (-1)) = xs.dropLast.map f := by
  rw [cutL_map]
  congr 1
  unfold cutG
  rw [HT.sIx_none, sIx_last, List.drop_zero, Nat.sub_zero, List.dropLast_eq_take]
/-- the law's rows -/
structure Gb (w : Nat) (rs : List (List Int)) : Prop where
  w14 : w ≤ 14
  n14 : rs.length ≤ 14
  ex : ∃ b, Rw w b rs ∧ (b = 3 ∨ b = 30 ∧ rs.length ≤ 5)
theorem Gb.lr {w : Nat} {rs : List (List Int)} (G : Gb w rs) : ∀ r ∈ rs, r.length = w := fun r hr => by
  obtain ⟨b, R, _⟩ := G.ex
  obtain ⟨i, hi, rfl⟩ := List.getElem_of_mem hr
  exact (R i _ (List.getElem?_eq_getElem hi)).1
theorem Gb.b36 {w : Nat} {rs : List (List Int)} (G : Gb w rs) : ∀ r ∈ rs, ∀ x ∈ r, x.natAbs < 2 ^ 36 := fun r hr x hx => by
  obtain ⟨b, R, h⟩ := G.ex
  have := G.n14
  obtain ⟨i, hi, rfl⟩ := List.getElem_of_mem hr
  exact lt_pw ((R i _ (List.getElem?_eq_getElem hi)).2 x hx) (by omega)
theorem Gb.b64 {w : Nat} {rs : List (List Int)} (G : Gb w rs) : ∀ r ∈ rs, ∀ x ∈ r, x.natAbs < 2 ^ 64 := fun r hr x hx => lt_pw (G.b36 r hr x hx) (by decide)
theorem Gb.drop {w : Nat} {rs : List (List Int)} (G : Gb w rs) : Gb w rs.dropLast := by
  obtain ⟨b, R, h⟩ := G.ex
  have := G.n14
  refine ⟨G.w14, by rw [List.length_dropLast]; omega, b, fun i r hr => ?_, ?_⟩
  · rw [List.getElem?_dropLast] at hr
    split at hr
    · exact R i r hr
    · cases hr
  · rw [List.length_dropLast]
    omega
def tabB (b m : Nat) : Bool := (List.range m).all fun n => decide (rho 90 (tab b n) n + 10 < 100000000) && decide (rho (b + n) (tab b n) n + 10 < 100000000)
theorem tab3 : tabB 3 15 = true := by decide +kernel
theorem tab30 : tabB 30 6 = true := by decide +kernel
theorem tab_lim {b n : Nat} (h : b = 3 ∧ n ≤ 14 ∨ b = 30 ∧ n ≤ 5) : rho 90 (tab b n) n + 10 < 100000000 ∧ rho (b + n) (tab b n) n + 10 < 100000000 := by
  rcases h with ⟨rfl, h⟩ | ⟨rfl, h⟩
  · have := List.all_eq_true.mp tab3 n (List.mem_range.mpr (by omega))
    rw [Bool.and_eq_true] at this
    exact ⟨of_decide_eq_true this.1, of_decide_eq_true this.2⟩
  · have := List.all_eq_true.mp tab30 n (List.mem_range.mpr (by omega))
    rw [Bool.and_eq_true] at this
    exact ⟨of_decide_eq_true this.1, of_decide_eq_true this.2⟩
theorem bas_ok {X : Exn → En → Prop} {w : Nat} {rs : List (List Int)} (G : Gb w rs) : Wp X (m__law_basis [.v (TT rs)]) fun rv _ => ∃ kvs bo L, rv = .o (.d kvs) ∧ Bn w L bo ∧ Kv 196 kvs bo ∧ (∀ x, SpB w bo x ↔ St.Sl (rs.map St.vec) x) ∧ Lm w rs L := by
  obtain ⟨b, R, h⟩ := G.ex
  have n14 := G.n14
  have hb : ∀ n, n ≤ rs.length → b = 3 ∧ n ≤ 14 ∨ b = 30 ∧ n ≤ 5 := fun n hn => by omega
  refine po_mono (basis_ok (b0 := b) G.w14 n14 G.lr (fun i r hr k => vb (R i r hr).2 k) (fun i hi => (tab_lim (hb i (by omega))).2) (.inr rfl)) ?_
  rintro _ _ ⟨kvs, bo, rfl, B, Kq, sp⟩
  exact ⟨kvs, bo, _, rfl, B, Kq, sp, G.w14, n14, G.lr, G.b64, by rw [tab_len]; exact (tab_lim (hb _ (Nat.le_refl _))).1⟩
theorem law_true (ns : List Int) (h : ns.length ≤ 63) (hb : ∀ z ∈ ns, Builtin.Int.intBits z ≤ 1048576) : ∃ r, m_law [.v (.list (ns.map .int))] = .ok (.v (.bool true)) r := by
  refine po_true ?_
  refine po_fnK fun Y K hY hK _ => ?_
  unfold b_law
  refine po_step fun K1 h1 _ _ _ => ?_
  obtain ⟨x, n, e1, e2, hn4⟩ : ∃ (x : Int) (n : Nat), minD (.int 3) (.int (ns.length : Nat)) = some (.int x) ∧ maxD (.int 1) (.int x) = some (.int n) ∧ n ≤ 3 := by
    refine ⟨if ((ns.length : Nat) : Int) < 3 then (ns.length : Nat) else 3, (if (1 : Int) < (if ((ns.length : Nat) : Int) < 3 then ((ns.length : Nat) : Int) else 3) then (if ((ns.length : Nat) : Int) < 3 then ((ns.length : Nat) : Int) else 3) else 1).toNat, rfl, ?_, ?_⟩
    · show some (PyData.int (if (1 : Int) < (if ((ns.length : Nat) : Int) < 3 then ((ns.length : Nat) : Int) else 3) then (if ((ns.length : Nat) : Int) < 3 then ((ns.length : Nat) : Int) else 3) else 1)) = _
      congr 2
      split <;> split <;> omega
    · split <;> split <;> omega
  simp [-po_comp, e1, e2]
  refine ⟨by omega, ?_⟩
  refine po_rngK (fun i z => ∃ (s1 s2 s3 s4 s5 s6 s7 s8 s9 s10 s11 : Sl), z = [.v (.list (ns.map .int)), s1, s2, s3, s4, s5, s6, s7, s8, s9, s10, s11] ∧ s1.isIo = false ∧ s2.isIo = false ∧ s3.isIo = false ∧ s4.isIo = false ∧ s5.isIo = false ∧ s6.isIo = false ∧ s7.isIo = false ∧ s8.isIo = false ∧ s9.isIo = false ∧ s10.isIo = false ∧ s11.isIo = false) n _ ⟨.unk, .unk, .unk, .unk, .unk, .unk, .unk, .unk, .unk, .unk, .unk, rfl, rfl, rfl, rfl, rfl, rfl, rfl, rfl, rfl, rfl, rfl, rfl⟩ ?_ ?_
  · rintro k z hk ⟨s1, s2, s3, s4, s5, s6, s7, s8, s9, s10, s11, rfl, q1, q2, q3, q4, q5, q6, q7, q8, q9, q10, q11⟩
    refine ⟨[.v (.list (ns.map .int)), .v (.int k), s2, s3, s4, s5, s6, s7, s8, s9, s10, s11], by simp [-po_comp, q1], fun K2 h2 r2 _ _ => ?_⟩
    refine po_step fun K3 h3 _ _ _ => ?_
    simp [-po_comp]
    refine po_mono (K14.L.pen_ok ns k) ?_
    rintro _ _ ⟨c, rfl, hp⟩
    simp [-po_comp, q2]
    refine h3 _ ?_
    refine po_step fun K4 h4 _ _ _ => ?_
    obtain ⟨mo, em, m1, m8⟩ : ∃ mo : Int, ([PyData.int 8, .int 6, .int 6] : List D)[k]? = some (.int mo) ∧ 1 ≤ mo ∧ mo ≤ 8 := by
      have : k = 0 ∨ k = 1 ∨ k = 2 := by omega
      rcases this with rfl | rfl | rfl
      · exact ⟨8, rfl, by decide, by decide⟩
      · exact ⟨6, rfl, by decide, by decide⟩
      · exact ⟨6, rfl, by decide, by decide⟩
    simp [-po_comp, em]
    refine po_mono (K14.L.rows_ok hp m1 m8) ?_
    rintro _ _ ⟨w, rs, c, t, b, rfl, w14, n14, R, hbb, rfl, hp⟩
    have G : Gb w rs := ⟨w14, n14, b, R, by omega⟩
    have Gd := G.drop
    simp [-po_comp, q3, q4]
    refine h4 _ ?_
    refine po_step fun K5 h5 _ _ _ => ?_
    simp [-po_comp]
    refine po_mono (bas_ok G) ?_
    rintro _ _ ⟨kvs, bo, L, rfl, B, Kq, sp, Mm⟩
    simp [-po_comp, q5]
    refine h5 _ ?_
    refine po_step fun K6 h6 _ _ _ => ?_
    have ec := cut_last (fun r : List Int => T r) rs
    have et : (rs.map fun r : List Int => T r).dropLast = rs.dropLast.map fun r => T r := by rw [List.map_dropLast]
    simp [-po_comp, ec]
    rw [et]
    refine po_mono (bas_ok Gd) ?_
    rintro _ _ ⟨kvs2, bo2, L2, rfl, B2, Kq2, sp2, Mm2⟩
    simp [-po_comp, q6]
    refine h6 _ ?_
    refine po_step fun K7 h7 _ _ _ => ?_
    obtain ⟨zr, hz⟩ := repr_TT w14 (by omega) G.lr G.b64
    simp [-po_comp, hz, q7]
    refine h7 _ ?_
    refine po_step fun K8 h8 _ _ _ => ?_
    simp [-po_comp]
    refine po_mono (K14.L.draw_ok hp (by decide) (by decide)) ?_
    rintro _ _ ⟨on1, c, t, rfl, o0, o1, rfl, hp⟩
    simp [-po_comp, q8]
    refine h8 _ ?_
    refine po_step fun K9 h9 _ _ _ => ?_
    have mo1 : mulOk ((rs.length : Nat) : Int) ((w : Nat) : Int) := .inl (by omega)
    simp [-po_comp, mo1, q9]
    refine h9 _ ?_
    have go : ∀ (ws : List Int) (c : Ct) (g : Bool), (∀ x ∈ ws, 0 ≤ x ∧ x < 4) → PenL c → Wp Y (forL (gN 10) (sSeq (sSet 11 (frzM (cCallI 2 m__law_word (aCons (getS 3) (aCons (getS 4) (aCons (getS 10) aNil))))))
  (sSeq (sIf (tOrM (tNotM (tTru (frzM (cCallA m__law_right [.d (getS 3), .d (getS 4), .l 5, .d (getS 11)])))) (tNotM (tTru (frzM (cCallA m__law_right [.d (getS 3), .d (eSl (getS 4) pNone (pSome (una negD (M.ret (.int 1))))), .l 6, .d (getS 11)])))))
  (sRet ((M.ret (.bool false)).bind fun d => M.ret (.v d)))
  sNil)
  (sIf (tOrM (tBool (bin neD (nry (one reprD) (aCons (getS 4) aNil)) (getS 7))) (tAndM (tNotM (tTru (getS 9))) (tNotM (tTru (frzM (cCallA m__law_right [.d (getS 3), .d (getS 4), .l 5, .d (getS 11)]))))))
  (sRet ((M.ret (.bool false)).bind fun d => M.ret (.v d)))
  sNil))) (ws.map .int) [.v (.list (ns.map .int)), .v (.int k), .o c, .v (.int w), .v (TT rs), .o (.d kvs), .o (.d kvs2), .v (.str zr), .v (.int on1), .v (.bool g), s10, s11]) K2 := by
      intro ws c g hws hp
      refine po_forK (f := fun x : Int => PyData.int x) (fun done z => ∃ (c : Ct) (s10 s11 : Sl), z = [.v (.list (ns.map .int)), .v (.int k), .o c, .v (.int w), .v (TT rs), .o (.d kvs), .o (.d kvs2), .v (.str zr), .v (.int on1), .v (.bool g), s10, s11] ∧ PenL c ∧ s10.isIo = false ∧ s11.isIo = false) ws _ ⟨c, _, _, rfl, hp, q10, q11⟩ ?_ ?_
      · rintro done way rest z e ⟨c, s10, s11, rfl, hp, q10, q11⟩
        have hy := hws way (by rw [e]; simp [-po_comp])
        refine ⟨[.v (.list (ns.map .int)), .v (.int k), .o c, .v (.int w), .v (TT rs), .o (.d kvs), .o (.d kvs2), .v (.str zr), .v (.int on1), .v (.bool g), .v (.int way), s11], by simp [-po_comp, q10], fun KA hA _ _ _ => ?_⟩
        refine po_step fun KB hB _ _ _ => ?_
        simp [-po_comp]
        refine po_mono (word_ok hp w14 n14 G.lr G.b36 hy.1 hy.2) ?_
        rintro _ _ ⟨W, c, t, rfl, lW, bW, rfl, hp⟩
        simp [-po_comp, q11]
        refine hB _ ?_
        refine po_step fun KC hC _ _ _ => ?_
        simp [-po_comp]
        refine po_callA ?_
        simp [-po_comp, azS]
        refine po_mono (right_ok Mm B Kq sp lW bW) ?_
        rintro _ _ ⟨rfl, x0, x1, x3, rfl⟩
        simp [-po_comp, azB]
        refine po_callA ?_
        simp [-po_comp, ec, azS]
        rw [et]
        refine po_mono (right_ok Mm2 B2 Kq2 sp2 lW bW) ?_
        rintro _ _ ⟨rfl, x0, x1, x3, rfl⟩
        simp [-po_comp, azB]
        refine hC _ ?_
        simp [-po_comp, hz]
        have fin : KA .nx [.v (.list (ns.map .int)), .v (.int k), .o c, .v (.int w), .v (TT rs), .o (.d kvs), .o (.d kvs2), .v (.str zr), .v (.int on1), .v (.bool g), .v (.int way), .v (T W)] := hA _ ⟨c, _, _, rfl, hp, rfl, rfl⟩
        cases g with
        | true =>
          simp [-po_comp]
          exact fin
        | false =>
          simp [-po_comp]
          refine po_callA ?_
          simp [-po_comp, azS]
          refine po_mono (right_ok Mm B Kq sp lW bW) ?_
          rintro _ _ ⟨rfl, x0, x1, x3, rfl⟩
          simp [-po_comp, azB]
          exact fin
      · rintro z ⟨c, s10, s11, rfl, hp, q10, q11⟩
        exact h2 _ ⟨_, _, _, _, _, _, _, _, _, _, _, rfl, rfl, rfl, rfl, rfl, rfl, rfl, rfl, rfl, rfl, q10, q11⟩
    by_cases cg : (40 : Int) < ((rs.length : Nat) : Int) * ((w : Nat) : Int)
    · have ei : intD (.bool true) = some (.int 1) := rfl
      simp [-po_comp, cg, ei]
      have z := go [on1] c true (fun x hx => by rw [List.mem_singleton.mp hx]; exact ⟨o0, o1⟩) hp
      exact z
    · have ei : intD (.bool false) = some (.int 0) := rfl
      simp [-po_comp, cg, ei]
      have z := go [0, 1, 2, 3] c false (by decide) hp
      exact z
  · rintro z ⟨s1, s2, s3, s4, s5, s6, s7, s8, s9, s10, s11, rfl, q1, q2, q3, q4, q5, q6, q7, q8, q9, q10, q11⟩
    refine h1 _ ?_
    simp [-po_comp]
    have l0 : ∀ W : List Int, (∀ i, St.vec W i = 0) → St.Sl (([] : List (List Int)).map St.vec) (St.vec W) := fun W hW => by
      show St.Sl [] _
      rw [St.sl_nil]
      exact hW
    refine po_mono (K14.M.mixing_ok (rs := []) (W := []) (w := 0) (b := 64) (e := 90) (by simp [-po_comp]) (by simp [-po_comp]) (by decide) (by decide) (by decide) (lim_w (by decide)) rfl (by simp [-po_comp]) (by have := cc_w (w := 0) (by decide); omega)) ?_
    rintro _ _ (⟨hno, -⟩ | ⟨cs, rfl, lc, -, -⟩)
    · exact (hno (l0 [] fun i => St.vec_out (by simp [-po_comp]))).elim
    have : cs = [] := List.length_eq_zero_iff.mp lc
    subst this
    have ee : eqD (T []) (.tuple []) = some (.bool true) := rfl
    simp [-po_comp, ee]
    refine po_mono (K14.M.mixing_ok (rs := []) (W := [0, 0]) (w := 2) (b := 64) (e := 90) (by simp [-po_comp]) (by simp [-po_comp]) (by decide) (by decide) (by decide) (lim_w (by decide)) rfl (by decide) (by have := cc_w (w := 2) (by decide); omega)) ?_
    rintro _ _ (⟨hno, -⟩ | ⟨cs, rfl, lc, -, -⟩)
    · exact (hno (l0 [0, 0] fun i => by
        have : i = 0 ∨ i = 1 ∨ 2 ≤ i := by omega
        rcases this with rfl | rfl | h
        · rfl
        · rfl
        · exact St.vec_out h)).elim
    have : cs = [] := List.length_eq_zero_iff.mp lc
    subst this
    simp [-po_comp, ee]
    refine po_mono (K14.M.mixing_ok (rs := []) (W := [0, 1]) (w := 2) (b := 64) (e := 90) (by simp [-po_comp]) (by simp [-po_comp]) (by decide) (by decide) (by decide) (lim_w (by decide)) rfl (by decide) (by have := cc_w (w := 2) (by decide); omega)) ?_
    rintro _ _ (⟨hno, rfl⟩ | ⟨cs, rfl, lc, -, hv⟩)
    · have en : isD .none .none = some (.bool true) := rfl
      simp [-po_comp, en]
      exact hK _ _ _ rfl rfl
    · have : cs = [] := List.length_eq_zero_iff.mp lc
      subst this
      have := hv 1
      exact absurd this (by decide)
end K14
open PySem PySem.W PySem.Calls PyProof.Rows
theorem PySem.Challenge.cw_commonhouse_k14_words_reached_holds : PySem.Challenge.rw_commonhouse_k14_words_reached.Holds := by
  w_on; o_law
  refine HandSHeadRun.head_any (r := OpenLaw.row PySem.Challenge.rw_commonhouse_k14_words_reached) (q := view (OpenLaw.row PySem.Challenge.rw_commonhouse_k14_words_reached).prog [22]) (H := K14.hk) (ob := K14.ob) (M := 15800) (loose := K14.lo) (d := HandSHeadRun.topDef (OpenLaw.row PySem.Challenge.rw_commonhouse_k14_words_reached).prog 22) (kwd := []) K14.ob_eq
    (by kernel_rfl) (fun s => by kernel_rfl) K14.run (by kernel_rfl) (by kernel_rfl) (by kernel_rfl) (by rfl) (by first | assumption | decide +kernel) (by decide +kernel) ⟨rfl, rfl, rfl, rfl, rfl, by decide +kernel⟩ ?hw ?hc
  case hw => w_witness2
  case hc =>
    refine Pu.walk_ofP (l := PySem.Challenge.rw_commonhouse_k14_words_reached) (n := 63) (k := 6) (x := "_law_script") rfl (by decide) (by kernel_rfl) ⟨⟨rfl, by decide, by decide⟩, rfl, by decide⟩ (by kernel_rfl) ?F
    intro w mg fa h Y G hmg0
    obtain ⟨K, KX, c, l⟩ := Y
    have hmg : mg ("law" : PySem.Str) = some (.ref fa) := by
      have e : (HandSHeadRun.topDef (OpenLaw.row PySem.Challenge.rw_commonhouse_k14_words_reached).prog 22).name = ("law" : PySem.Str) := by kernel_rfl
      rw [← e]
      exact hmg0
    obtain ⟨fd, hb, hF⟩ := K14.facts (P := (PySem.Challenge.rw_commonhouse_k14_words_reached).prog) (w := w) KX G hmg (by rfl) c l
    have cs := l.cs KX
    exact ⟨K, fd, Pu.csN K14.ln K, _, KX, cs.1, cs.2.1, cs.2.2, hb, fun H a ns hl hb hH hS => K14.sp_law (K14.law_true ns hl hb) H a hS (Pu.tabs_start hH), hF⟩
